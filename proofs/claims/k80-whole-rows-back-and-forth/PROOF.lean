import PyProof.Rows.All
import Wide.All
import OpenK.AllK
import Wide.FinOn
import HandS.ForMost
import HandS.ForExc
import HandS.ExcInit
import HandS.ExcField
import HandS.ExcIs
import HandS.IsInst
import HandS.Flow
import HandS.Wide
import HandS.Conv
import HandS.Evl
import HandS.TupAny
import HandS.Zip
import HandS.More
import HandS.List
import HandS.ExcCtx
import HandS.HotCalls
import HandS.ExcInitHot
import HandS.SuiteRaise
import HandS.TupMul
import HandS.Rev
import HandS.Walk
import HandS.MakeKwOnly
import KE.KExcIs
import PySem.Challenge.RW_mirrorcounts_k80_whole_rows_back_and_for
set_option Elab.async false
set_option linter.all false
set_option maxRecDepth 100000
set_option maxHeartbeats 4000000
/-! Dl: a logic of plain data over the hand layer. G: what never changes any more; H: all that is tracked. -/
namespace Dl
open PySem L2
open Evl (Ex)
/-- plain data -/
inductive D where
  | non | bl (b : Bool) | int (i : Int) | str (x : Str) | tup (ds : List D) | lst (ds : List D) | obj (C : Addr) (fs : List (Str × D)) | ptr (a : Addr) | err (a dd : Addr) (f : Str) (d : D) | dct (kvs : List (Key × D))
mutual
inductive Rep (K : PySem.W.Frag) (G : Hp) : V → D → Prop
  | non : Rep K G .non .non
  | bl (b : Bool) : Rep K G (.bl b) (.bl b)
  | int (i : Int) : Rep K G (.int i) (.int i)
  | str (x : Str) : Rep K G (.str x) (.str x)
  | tup {a : Addr} {xs : List V} {ds : List D} (h : SqT K G a xs) (hs : RepL K G xs ds) : Rep K G (.ref a) (.tup ds)
  | lst {a : Addr} {xs : List V} {ds : List D} (h : SqL K G a xs) (hs : RepL K G xs ds) : Rep K G (.ref a) (.lst ds)
  | obj {a C dx : Addr} {gs : List (Str × V)} {fs : List (Str × D)} (h : G a = some (.ins C dx gs)) (hs : RepF K G gs fs) : Rep K G (.ref a) (.obj C fs)
  | ptr (a : Addr) : Rep K G (.ref a) (.ptr a)
  | err {a dd : Addr} {f : Str} {v : V} {d : D} (h : G dd = some (.xd [(f, v)])) (hs : Rep K G v d) : Rep K G (.ref a) (.err a dd f d)
  | dct {a : Addr} {ws : List (Key × V)} {kvs : List (Key × D)} (h : G a = some (.dK ws)) (hs : RepK K G ws kvs) : Rep K G (.ref a) (.dct kvs)
inductive RepL (K : PySem.W.Frag) (G : Hp) : List V → List D → Prop
  | nil : RepL K G [] []
  | cons {v : V} {d : D} {vs : List V} {ds : List D} (h : Rep K G v d) (hs : RepL K G vs ds) : RepL K G (v :: vs) (d :: ds)
inductive RepF (K : PySem.W.Frag) (G : Hp) : List (Str × V) → List (Str × D) → Prop
  | nil : RepF K G [] []
  | cons {f : Str} {v : V} {d : D} {vs : List (Str × V)} {ds : List (Str × D)} (h : Rep K G v d) (hs : RepF K G vs ds) : RepF K G ((f, v) :: vs) ((f, d) :: ds)
inductive RepK (K : PySem.W.Frag) (G : Hp) : List (Key × V) → List (Key × D) → Prop
  | nil : RepK K G [] []
  | cons {f : Key} {v : V} {d : D} {vs : List (Key × V)} {ds : List (Key × D)} (h : Rep K G v d) (hs : RepK K G vs ds) : RepK K G ((f, v) :: vs) ((f, d) :: ds)
end
section
variable {K : PySem.W.Frag} {G G' : Hp}
mutual
theorem Rep.mono (e : Ex G G') : ∀ {v : V} {d : D}, Rep K G v d → Rep K G' v d
  | _, _, .non => .non
  | _, _, .bl b => .bl b
  | _, _, .int i => .int i
  | _, _, .str x => .str x
  | _, _, .tup h hs => .tup (Evl.ex_t e h) (RepL.mono e hs)
  | _, _, .lst h hs => .lst (Evl.ex_l e h) (RepL.mono e hs)
  | _, _, .obj h hs => .obj (e _ _ h) (RepF.mono e hs)
  | _, _, .ptr a => .ptr a
  | _, _, .err h hs => .err (e _ _ h) (Rep.mono e hs)
  | _, _, .dct h hs => .dct (e _ _ h) (RepK.mono e hs)
theorem RepL.mono (e : Ex G G') : ∀ {vs : List V} {ds : List D}, RepL K G vs ds → RepL K G' vs ds
  | _, _, .nil => .nil
  | _, _, .cons h hs => .cons (Rep.mono e h) (RepL.mono e hs)
theorem RepF.mono (e : Ex G G') : ∀ {vs : List (Str × V)} {ds : List (Str × D)}, RepF K G vs ds → RepF K G' vs ds
  | _, _, .nil => .nil
  | _, _, .cons h hs => .cons (Rep.mono e h) (RepF.mono e hs)
theorem RepK.mono (e : Ex G G') : ∀ {vs : List (Key × V)} {ds : List (Key × D)}, RepK K G vs ds → RepK K G' vs ds
  | _, _, .nil => .nil
  | _, _, .cons h hs => .cons (Rep.mono e h) (RepK.mono e hs)
end
theorem RepL.length : ∀ {vs : List V} {ds : List D}, RepL K G vs ds → vs.length = ds.length
  | _, _, .nil => rfl
  | _, _, .cons _ hs => congrArg (· + 1) (RepL.length hs)
theorem RepL.get : ∀ {vs : List V} {ds : List D} {i : Nat} {v : V}, RepL K G vs ds → vs[i]? = some v → ∃ d, ds[i]? = some d ∧ Rep K G v d
  | _, _, i, v, .nil, e => by simp at e
  | _, _, 0, v, .cons h _, e => by
    simp at e
    subst e
    exact ⟨_, rfl, h⟩
  | _, _, i + 1, v, .cons _ hs, e => by
    obtain ⟨d, h1, h2⟩ := RepL.get (i := i) (v := v) hs (by simpa using e)
    exact ⟨d, by simpa using h1, h2⟩
theorem RepL.getD : ∀ {vs : List V} {ds : List D} {i : Nat} {d : D}, RepL K G vs ds → ds[i]? = some d → ∃ v, vs[i]? = some v ∧ Rep K G v d
  | _, _, i, d, .nil, e => by simp at e
  | _, _, 0, d, .cons h _, e => by
    simp at e
    subst e
    exact ⟨_, rfl, h⟩
  | _, _, i + 1, d, .cons _ hs, e => by
    obtain ⟨v, h1, h2⟩ := RepL.getD (i := i) (d := d) hs (by simpa using e)
    exact ⟨v, by simpa using h1, h2⟩
theorem RepL.append : ∀ {vs ws : List V} {ds es : List D}, RepL K G vs ds → RepL K G ws es → RepL K G (vs ++ ws) (ds ++ es)
  | _, _, _, _, .nil, s => s
  | _, _, _, _, .cons h hs, s => .cons h (RepL.append hs s)
theorem RepL.set {v : V} {d : D} (r : Rep K G v d) : ∀ {vs : List V} {ds : List D} (i : Nat), RepL K G vs ds → RepL K G (vs.set i v) (ds.set i d)
  | _, _, _, .nil => .nil
  | _, _, 0, .cons _ hs => .cons r hs
  | _, _, i + 1, .cons h hs => .cons h (RepL.set r i hs)
theorem RepL.ints : ∀ {vs : List V} {ns : List Int}, RepL K G vs (ns.map D.int) → vs = ns.map V.int
  | _, [], .nil => rfl
  | _, n :: ns, .cons h hs => by
    cases h
    rw [RepL.ints hs, List.map_cons]
theorem RepL.ofInts : ∀ (ns : List Int), RepL K G (ns.map V.int) (ns.map D.int)
  | [] => .nil
  | n :: ns => .cons (.int n) (RepL.ofInts ns)
theorem RepL.bls : ∀ {vs : List V} {ns : List Bool}, RepL K G vs (ns.map D.bl) → vs = ns.map V.bl
  | _, [], .nil => rfl
  | _, n :: ns, .cons h hs => by
    cases h
    rw [RepL.bls hs, List.map_cons]
theorem look_put {α : Type} (f g : Str) (y : α) (fs : List (Str × α)) : ((f, y) :: fs).lookup g = if g = f then some y else fs.lookup g := by
  by_cases h : g = f
  · subst h
    simp [List.lookup]
  · have e : (g == f) = false := by simpa using h
    rw [if_neg h]
    simp [List.lookup, e]
theorem RepF.look : ∀ {vs : List (Str × V)} {ds : List (Str × D)} {f : Str} {d : D}, RepF K G vs ds → ds.lookup f = some d → ∃ v, vs.lookup f = some v ∧ Rep K G v d
  | _, _, f, d, .nil, e => by cases e
  | _, _, f, d, .cons (f := g) (v := v) (vs := vs) h hs, e => by
    rw [look_put] at e
    rw [look_put]
    by_cases hf : f = g
    · rw [if_pos hf] at e ⊢
      cases e
      exact ⟨v, rfl, h⟩
    · rw [if_neg hf] at e ⊢
      exact RepF.look hs e
end
/-- what is in an object that a slot alone holds -/
inductive Ct where
  | lst (ds : List D) | obj (C : Addr) (fs : List (Str × D)) | dct (kvs : List (Key × D))
inductive RepC (K : PySem.W.Frag) (G : Hp) : HO → Ct → Prop
  | lst {xs : List V} {ds : List D} (h : RepL K G xs ds) : RepC K G (.lst xs) (.lst ds)
  | obj {C dx : Addr} {gs : List (Str × V)} {fs : List (Str × D)} (h : RepF K G gs fs) : RepC K G (.ins C dx gs) (.obj C fs)
  | dct {ws : List (Key × V)} {kvs : List (Key × D)} (h : RepK K G ws kvs) : RepC K G (.dK ws) (.dct kvs)
theorem RepC.mono {K : PySem.W.Frag} {G G' : Hp} (e : Ex G G') {o : HO} {c : Ct} : RepC K G o c → RepC K G' o c
  | .lst h => .lst (h.mono e)
  | .obj h => .obj (h.mono e)
  | .dct h => .dct (h.mono e)
/-- frozen -/
@[reducible] def Ct.d : Ct → D
  | .lst ds => .lst ds
  | .obj C fs => .obj C fs
  | .dct kvs => .dct kvs
theorem RepC.rep {K : PySem.W.Frag} {G : Hp} {o : HO} {c : Ct} {a : Addr} (h : RepC K G o c) (e : G a = some o) : Rep K G (.ref a) c.d := by
  cases h with
  | lst h => exact .lst (SqL.of e) h
  | obj h => exact .obj e h
  | dct h => exact .dct e h
/-- what a slot holds: data that never changes; an object that the slot alone holds -/
inductive B where
  | fz (d : D) | ow (c : Ct)
abbrev Env := List (Option B)
/-- what a law draws from: where it stands, what it is made of, what holds of it -/
structure Rsc where
  w : Addr
  F : Addr → Prop
  I : Hp → Prop
  st : ∀ H H', I H → (∀ a, F a → H' a = H a) → I H'
  dom : ∀ H a, I H → F a → H a ≠ none
def Rsc.no : Rsc := ⟨0, fun _ => False, fun _ => True, fun _ _ _ _ => trivial, fun _ _ _ h => h.elim⟩
/-- the entry of a def: what never changes, what is tracked, what may change (the resource), the wish of exceptions -/
structure Ctx where
  K : PySem.W.Frag
  G : Hp
  H : Hp
  R : Rsc
  /-- cells that stand as they are -/
  X : List (Addr × HO)
def own (σ : St) (ρ : Env) (i : Nat) (a : Addr) : Prop := σ[i]? = some (some (.ref a)) ∧ ∃ ds, ρ[i]? = some (some (.ow ds))
def BV (Γ : Ctx) (G H : Hp) (v : V) : B → Prop
  | .fz d => Rep Γ.K G v d
  | .ow ds => ∃ a xs, v = .ref a ∧ H a = some xs ∧ RepC Γ.K G xs ds ∧ G a = none ∧ ¬ Γ.R.F a ∧ Γ.H a = none
structure Ok (Γ : Ctx) (G H : Hp) (σ : St) (ρ : Env) : Prop where
  gh : Ex G H
  g0 : Ex Γ.G G
  nw : ∀ a, Γ.G a = none → Γ.H a ≠ none → G a = none
  fr : ∀ a o, ¬ Γ.R.F a → Γ.H a = some o → H a = some o
  dm : ∀ a, Γ.H a ≠ none → H a ≠ none
  res : Γ.R.I H
  rg : ∀ a, Γ.R.F a → G a = none
  len : σ.length = ρ.length
  var : ∀ (i : Nat) (b : B), ρ[i]? = some (some b) → ∃ v, σ[i]? = some (some v) ∧ BV Γ G H v b
  dj : ∀ (i j : Nat) (a : Addr), own σ ρ i a → own σ ρ j a → i = j
  cel : ∀ p ∈ Γ.X, H p.1 = some p.2 ∧ G p.1 = none ∧ ¬ Γ.R.F p.1
  nx : ∀ (i : Nat) (a : Addr), own σ ρ i a → ∀ p ∈ Γ.X, p.1 ≠ a
/-- a result that is held by no slot -/
def BR (Γ : Ctx) (G H : Hp) (σ : St) (ρ : Env) (v : V) (b : B) : Prop := BV Γ G H v b ∧ ∀ ds, b = .ow ds → ∀ a, v = .ref a → (∀ i, ¬ own σ ρ i a) ∧ ∀ p ∈ Γ.X, p.1 ≠ a
section
variable {Γ : Ctx} {G G' H H' : Hp} {σ : St} {ρ : Env}
theorem own_in {i : Nat} {a : Addr} (k : Ok Γ G H σ ρ) (h : own σ ρ i a) : ∃ xs, H a = some xs ∧ G a = none ∧ ¬ Γ.R.F a ∧ Γ.H a = none := by
  obtain ⟨h1, ds, h2⟩ := h
  obtain ⟨v, h3, a', xs, rfl, h4, _, h5, h6, h7⟩ := k.var i _ h2
  rw [h1] at h3
  cases h3
  exact ⟨xs, h4, h5, h6, h7⟩
theorem BV.mono {v : V} {b : B} (h : BV Γ G H v b) (e : Ex G G') (hg : ∀ a, H a ≠ none → G a = none → G' a = none) (hh : ∀ a xs, H a = some xs → ¬ Γ.R.F a → G a = none → Γ.H a = none → H' a = some xs) : BV Γ G' H' v b := by
  cases b with
  | fz d => exact Rep.mono e h
  | ow ds =>
    obtain ⟨a, xs, rfl, h1, h2, h3, h4, h5⟩ := h
    exact ⟨a, xs, rfl, hh a xs h1 h4 h3 h5, RepC.mono e h2, hg a (by rw [h1]; simp) h3, h4, h5⟩
/-- G and H grow; the slots' own lists stand -/
theorem Ok.grow (k : Ok Γ G H σ ρ) (gg : Ex G G') (gh : Ex G' H') (nw : ∀ a, G a = none → H a ≠ none → G' a = none) (fr : ∀ a o, ¬ Γ.R.F a → H a = some o → H' a = some o) (dm : ∀ a, H a ≠ none → H' a ≠ none) (res : Γ.R.I H') (rg : ∀ a, Γ.R.F a → G' a = none) : Ok Γ G' H' σ ρ where
  gh := gh
  g0 := k.g0.trans gg
  nw := fun a h1 h2 => nw a (k.nw a h1 h2) (k.dm a h2)
  fr := fun a o h1 h2 => fr a o h1 (k.fr a o h1 h2)
  dm := fun a h => dm a (k.dm a h)
  res := res
  rg := rg
  len := k.len
  var := fun i b h => by
    obtain ⟨v, h1, h2⟩ := k.var i b h
    exact ⟨v, h1, h2.mono gg (fun a h3 h4 => nw a h4 h3) fun a xs h3 h4 _ _ => fr a _ h4 h3⟩
  dj := k.dj
  cel := fun p hp => by
    obtain ⟨h1, h2, h3⟩ := k.cel p hp
    exact ⟨fr _ _ h3 h1, nw _ h2 (by rw [h1]; simp), h3⟩
  nx := k.nx
/-- a new object, frozen -/
theorem Ok.new (k : Ok Γ G H σ ρ) {p : Addr} {o : HO} (hp : H p = none) : Ok Γ (upd G p o) (upd H p o) σ ρ ∧ Ex G (upd G p o) := by
  have hG : G p = none := Evl.fresh_back k.gh hp
  have hF : ∀ a, Γ.R.F a → a ≠ p := fun a h e => k.rg a h |> fun _ => (Γ.R.dom H a k.res h) (by rw [e]; exact hp)
  have gg := Ex.new (o := o) hG
  refine ⟨k.grow gg (fun a u h => ?_) (fun a h1 h2 => ?_) (fun a u _ h => ?_) (fun a h => ?_) (Γ.R.st H _ k.res fun a h => upd_ne (hF a h)) fun a h => by rw [upd_ne (hF a h)]; exact k.rg a h, gg⟩
  · by_cases e : a = p
    · subst e
      rw [upd_same] at h ⊢
      exact h
    · rw [upd_ne e] at h ⊢
      exact k.gh a u h
  · rw [upd_ne (fun e => h2 (by rw [e]; exact hp))]
    exact h1
  · rw [upd_ne (ne_of_none h hp)]
    exact h
  · by_cases e : a = p
    · rw [e, upd_same]
      simp
    · rw [upd_ne e]
      exact h
/-- a new object that is not frozen -/
theorem Ok.newO (k : Ok Γ G H σ ρ) {p : Addr} {o : HO} (hp : H p = none) : Ok Γ G (upd H p o) σ ρ := by
  have hF : ∀ a, Γ.R.F a → a ≠ p := fun a h e => (Γ.R.dom H a k.res h) (by rw [e]; exact hp)
  refine k.grow (Ex.refl G) (fun a u h => ?_) (fun a h1 _ => h1) (fun a u _ h => ?_) (fun a h => ?_) (Γ.R.st H _ k.res fun a h => upd_ne (hF a h)) k.rg
  · rw [upd_ne (ne_of_none (k.gh a u h) hp)]
    exact k.gh a u h
  · rw [upd_ne (ne_of_none h hp)]
    exact h
  · by_cases e : a = p
    · rw [e, upd_same]
      simp
    · rw [upd_ne e]
      exact h
/-- a slot's own list is changed -/
theorem Ok.mut (k : Ok Γ G H σ ρ) {i : Nat} {a : Addr} {ds ds' : Ct} {xs' : HO} (hi : ρ[i]? = some (some (.ow ds))) (ha : σ[i]? = some (some (.ref a))) (hr : RepC Γ.K G xs' ds') : Ok Γ G (upd H a xs') σ (ρ.set i (some (.ow ds'))) := by
  have ho : own σ ρ i a := ⟨ha, ds, hi⟩
  obtain ⟨xs, e1, e2, e3, e4⟩ := own_in k ho
  have nG : ∀ b o, G b = some o → b ≠ a := fun b o h e => by rw [e, e2] at h; cases h
  have hlt : i < ρ.length := (List.getElem?_eq_some_iff.mp hi).1
  have back : ∀ j c, own σ (ρ.set i (some (.ow ds'))) j c → own σ ρ j c := fun j c ⟨p, es, q⟩ => by
    by_cases hj : j = i
    · subst hj
      exact ⟨p, ds, hi⟩
    · rw [List.getElem?_set_ne (Ne.symm hj)] at q
      exact ⟨p, es, q⟩
  refine ⟨fun b o h => by rw [upd_ne (nG b o h)]; exact k.gh b o h, k.g0, k.nw, fun b o h1 h2 => ?_, fun b h => ?_, Γ.R.st H _ k.res fun b h => upd_ne fun e => e3 (e ▸ h), k.rg, by rw [List.length_set]; exact k.len, fun j b h => ?_, fun j l c h1 h2 => k.dj j l c (back j c h1) (back l c h2), fun p hp => ?_, fun j c h => k.nx j c (back j c h)⟩
  · rw [upd_ne fun e => by rw [e, e4] at h2; cases h2]
    exact k.fr b o h1 h2
  · by_cases e : b = a
    · rw [e, upd_same]
      simp
    · rw [upd_ne e]
      exact k.dm b h
  · by_cases hj : j = i
    · subst hj
      rw [List.getElem?_set_self hlt] at h
      cases h
      exact ⟨_, ha, a, xs', rfl, upd_same, hr, e2, e3, e4⟩
    · rw [List.getElem?_set_ne (Ne.symm hj)] at h
      obtain ⟨v, h1, h2⟩ := k.var j b h
      refine ⟨v, h1, ?_⟩
      cases b with
      | fz d => exact h2
      | ow es =>
        obtain ⟨c, ys, rfl, g1, g2, g3, g4, g5⟩ := h2
        have hc : c ≠ a := fun e => hj (k.dj j i a ⟨by rw [h1, e], es, h⟩ ho)
        exact ⟨c, ys, rfl, by rw [upd_ne hc]; exact g1, g2, g3, g4, g5⟩
  · obtain ⟨h1, h2, h3⟩ := k.cel p hp
    exact ⟨by rw [upd_ne (k.nx i a ho p hp)]; exact h1, h2, h3⟩
/-- a slot is stored -/
theorem Ok.store (k : Ok Γ G H σ ρ) {i : Nat} {v : V} {b : B} (hb : BR Γ G H σ ρ v b) : Ok Γ G H (σ.set i (some v)) (ρ.set i (some b)) := by
  refine ⟨k.gh, k.g0, k.nw, k.fr, k.dm, k.res, k.rg, by rw [List.length_set, List.length_set]; exact k.len, fun j c h => ?_, fun j l c h1 h2 => ?_, k.cel, fun j c h => ?_⟩
  · by_cases hj : j = i
    · subst hj
      have hlt : j < ρ.length := by
        have := (List.getElem?_eq_some_iff.mp h).1
        rwa [List.length_set] at this
      rw [List.getElem?_set_self hlt] at h
      cases h
      exact ⟨v, List.getElem?_set_self (by rw [k.len]; exact hlt), hb.1⟩
    · rw [List.getElem?_set_ne (Ne.symm hj)] at h ⊢
      exact k.var j c h
  · have get : ∀ j c, own (σ.set i (some v)) (ρ.set i (some b)) j c → (j = i ∧ v = .ref c ∧ ∃ ds, b = .ow ds) ∨ (j ≠ i ∧ own σ ρ j c) := fun j c ⟨p, es, q⟩ => by
      by_cases hj : j = i
      · subst hj
        have hlt : j < ρ.length := by
          have := (List.getElem?_eq_some_iff.mp q).1
          rwa [List.length_set] at this
        rw [List.getElem?_set_self hlt] at q
        rw [List.getElem?_set_self (by rw [k.len]; exact hlt)] at p
        cases q
        cases p
        exact .inl ⟨rfl, rfl, es, rfl⟩
      · rw [List.getElem?_set_ne (Ne.symm hj)] at p q
        exact .inr ⟨hj, p, es, q⟩
    rcases get j c h1 with ⟨rfl, hv, ds, hd⟩ | ⟨n1, o1⟩
    · rcases get l c h2 with ⟨rfl, _, _⟩ | ⟨n2, o2⟩
      · rfl
      · exact absurd o2 ((hb.2 ds hd c hv).1 l)
    · rcases get l c h2 with ⟨rfl, hv, ds, hd⟩ | ⟨n2, o2⟩
      · exact absurd o1 ((hb.2 ds hd c hv).1 j)
      · exact k.dj j l c o1 o2
  · obtain ⟨p, es, q⟩ := h
    by_cases hj : j = i
    · subst hj
      have hlt : j < ρ.length := by
        have := (List.getElem?_eq_some_iff.mp q).1
        rwa [List.length_set] at this
      rw [List.getElem?_set_self hlt] at q
      rw [List.getElem?_set_self (by rw [k.len]; exact hlt)] at p
      cases q
      cases p
      exact (hb.2 es rfl c rfl).2
    · rw [List.getElem?_set_ne (Ne.symm hj)] at p q
      exact k.nx j c ⟨p, es, q⟩
theorem BR.fz {v : V} {d : D} (h : Rep Γ.K G v d) : BR Γ G H σ ρ v (.fz d) := ⟨h, fun _ e => by cases e⟩
/-- slots are forgotten -/
theorem Ok.weak (k : Ok Γ G H σ ρ) {ρ' : Env} (hl : ρ'.length = ρ.length) (hs : ∀ (i : Nat) (b : B), ρ'[i]? = some (some b) → ρ[i]? = some (some b)) : Ok Γ G H σ ρ' :=
  ⟨k.gh, k.g0, k.nw, k.fr, k.dm, k.res, k.rg, k.len.trans hl.symm, fun i b h => k.var i b (hs i b h), fun i j a ⟨p, ds, q⟩ ⟨p', es, q'⟩ => k.dj i j a ⟨p, ds, hs _ _ q⟩ ⟨p', es, hs _ _ q'⟩, k.cel, fun i a ⟨p, ds, q⟩ => k.nx i a ⟨p, ds, hs _ _ q⟩⟩
/-- a slot's own list is frozen -/
theorem Ok.freeze (k : Ok Γ G H σ ρ) {i : Nat} {a : Addr} {ds : Ct} (hi : ρ[i]? = some (some (.ow ds))) (ha : σ[i]? = some (some (.ref a))) : ∃ G', Ex G G' ∧ Ok Γ G' H σ (ρ.set i (some (.fz ds.d))) ∧ Rep Γ.K G' (.ref a) ds.d := by
  obtain ⟨v, h1, a', xs, rfl, g1, g2, g3, g4, g5⟩ := k.var i _ hi
  rw [ha] at h1
  cases h1
  have gg : Ex G (upd G a xs) := Ex.new g3
  have hlt : i < ρ.length := (List.getElem?_eq_some_iff.mp hi).1
  have rp : Rep Γ.K (upd G a xs) (.ref a) ds.d := (RepC.mono gg g2).rep upd_same
  have back : ∀ j c, own σ (ρ.set i (some (.fz ds.d))) j c → own σ ρ j c := fun j c ⟨p, es, q⟩ => by
    by_cases hj : j = i
    · subst hj
      rw [List.getElem?_set_self hlt] at q
      cases q
    · rw [List.getElem?_set_ne (Ne.symm hj)] at q
      exact ⟨p, es, q⟩
  refine ⟨_, gg, ⟨fun b o h => ?_, k.g0.trans gg, fun b h1 h2 => ?_, k.fr, k.dm, k.res, fun b h => by rw [upd_ne fun e => g4 (by rw [← e]; exact h)]; exact k.rg b h, by rw [List.length_set]; exact k.len, fun j b h => ?_, fun j l c h1 h2 => k.dj j l c (back j c h1) (back l c h2), fun p hp => ?_, fun j c h => k.nx j c (back j c h)⟩, rp⟩
  · by_cases e : b = a
    · subst e
      rw [upd_same] at h
      cases h
      exact g1
    · rw [upd_ne e] at h
      exact k.gh b o h
  · rw [upd_ne fun e => h2 (by rw [e]; exact g5)]
    exact k.nw b h1 h2
  · by_cases hj : j = i
    · subst hj
      rw [List.getElem?_set_self hlt] at h
      cases h
      exact ⟨_, ha, rp⟩
    · rw [List.getElem?_set_ne (Ne.symm hj)] at h
      obtain ⟨v, h1, h2⟩ := k.var j b h
      refine ⟨v, h1, ?_⟩
      cases b with
      | fz d => exact Rep.mono gg h2
      | ow es =>
        obtain ⟨c, ys, rfl, q1, q2, q3, q4, q5⟩ := h2
        have hc : c ≠ a := fun e => hj (k.dj j i a ⟨by rw [h1, e], es, h⟩ ⟨ha, ds, hi⟩)
        exact ⟨c, ys, rfl, q1, RepC.mono gg q2, by rw [upd_ne hc]; exact q3, q4, q5⟩
  · obtain ⟨h1, h2, h3⟩ := k.cel p hp
    exact ⟨h1, by rw [upd_ne (k.nx i a ⟨ha, ds, hi⟩ p hp)]; exact h2, h3⟩
end

/-! ### the judgements -/
/-- an expression: a frozen result; any result; a test; arguments -/
def EW (Γ : Ctx) (te : TE) (ρ : Env) (Φ : D → Env → Prop) : Prop := ∀ σ G H (Q : VK), Ok Γ G H σ ρ → (∀ d ρ' v G' H', Ex G G' → Ok Γ G' H' σ ρ' → Rep Γ.K G' v d → Φ d ρ' → Q v H') → te σ H Q
def EB (Γ : Ctx) (te : TE) (ρ : Env) (Φ : B → Env → Prop) : Prop := ∀ σ G H (Q : VK), Ok Γ G H σ ρ → (∀ b ρ' v G' H', Ex G G' → Ok Γ G' H' σ ρ' → BR Γ G' H' σ ρ' v b → Φ b ρ' → Q v H') → te σ H Q
def TW (Γ : Ctx) (tt : TT) (ρ : Env) (Φ : Bool → Env → Prop) : Prop := ∀ σ G H (Q : Bool → Hp → Prop), Ok Γ G H σ ρ → (∀ b ρ' G' H', Ex G G' → Ok Γ G' H' σ ρ' → Φ b ρ' → Q b H') → tt σ H Q
def AW (Γ : Ctx) (ta : TA) (ρ : Env) (Φ : List D → Env → Prop) : Prop := ∀ σ G H (Q : List V → Hp → Prop), Ok Γ G H σ ρ → (∀ ds ρ' vs G' H', Ex G G' → Ok Γ G' H' σ ρ' → RepL Γ.K G' vs ds → Φ ds ρ' → Q vs H') → ta σ H Q
/-- where statements end -/
structure Fin where
  nx : Env → Prop
  rt : B → Prop
  bk : Env → Prop
  ct : Env → Prop
  xr : Env → Addr → Str → D → Prop
def SW (Γ : Ctx) (ts : TS) (ρ : Env) (Δ : Fin) : Prop := ∀ σ G H (D : Ends), Ok Γ G H σ ρ →
  (∀ ρ' σ' G' H', Ex G G' → Ok Γ G' H' σ' ρ' → Δ.nx ρ' → D.nx σ' H') → (∀ b v σ' ρ' G' H', Ok Γ G' H' σ' ρ' → BR Γ G' H' σ' ρ' v b → Δ.rt b → D.rt v H') →
  (∀ ρ' σ' G' H', Ex G G' → Ok Γ G' H' σ' ρ' → Δ.bk ρ' → D.bk σ' H') → (∀ ρ' σ' G' H', Ex G G' → Ok Γ G' H' σ' ρ' → Δ.ct ρ' → D.ct σ' H') → ts D σ H

section
variable {Γ : Ctx} {ρ : Env} {te ta tb tc : TE} {tt tu : TT} {Φ : D → Env → Prop} {Ψ : B → Env → Prop} {Θ : Bool → Env → Prop} {Λ : List D → Env → Prop}
theorem EW.eb (h : EW Γ te ρ fun d ρ' => Ψ (.fz d) ρ') : EB Γ te ρ Ψ := fun σ G H Q k q => h σ G H Q k fun d ρ' v G' H' e k' r p => q (.fz d) ρ' v G' H' e k' (.fz r) p
theorem ew_imp {Φ' : D → Env → Prop} (h : EW Γ te ρ Φ') (i : ∀ d ρ', Φ' d ρ' → Φ d ρ') : EW Γ te ρ Φ := fun σ G H Q k q => h σ G H Q k fun d ρ' v G' H' e k' r p => q d ρ' v G' H' e k' r (i d ρ' p)
theorem ew_var {i : Nat} {d : D} (h : ρ[i]? = some (some (.fz d))) (p : Φ d ρ) : EW Γ (tVar i) ρ Φ := fun σ G H Q k q => by
  obtain ⟨v, h1, h2⟩ := k.var i _ h
  exact ⟨v, h1, q d ρ v G H (Ex.refl G) k h2 p⟩
def ofV : V → D
  | .non => .non
  | .bl b => .bl b
  | .int i => .int i
  | .str x => .str x
  | _ => .non
def sc : V → Bool
  | .non => true
  | .bl _ => true
  | .int _ => true
  | .str _ => true
  | _ => false
theorem rep_ofV {K : PySem.W.Frag} {G : Hp} {v : V} (h : sc v = true) : Rep K G v (ofV v) := by
  cases v with
  | non => exact .non
  | bl b => exact .bl b
  | int i => exact .int i
  | str x => exact .str x
  | _ => exact absurd (show false = true from h) Bool.false_ne_true
theorem ew_int {i : Int} (p : Φ (.int i) ρ) : EW Γ (tC (.int i)) ρ Φ := fun σ G H Q k q => q _ ρ _ G H (Ex.refl G) k (.int i) p
theorem ew_bl {b : Bool} (p : Φ (.bl b) ρ) : EW Γ (tC (.bl b)) ρ Φ := fun σ G H Q k q => q _ ρ _ G H (Ex.refl G) k (.bl b) p
theorem ew_non (p : Φ .non ρ) : EW Γ (tC .non) ρ Φ := fun σ G H Q k q => q _ ρ _ G H (Ex.refl G) k .non p
theorem ew_str {x : Str} (p : Φ (.str x) ρ) : EW Γ (tC (.str x)) ρ Φ := fun σ G H Q k q => q _ ρ _ G H (Ex.refl G) k (.str x) p
/-- a constant of the module -/
theorem ew_ref {a : Addr} {xs : List V} {ds : List D} (h : ∀ H, SqT Γ.K H a xs) (hs : ∀ G, RepL Γ.K G xs ds) (p : Φ (.tup ds) ρ) : EW Γ (tC (.ref a)) ρ Φ := fun σ G H Q k q => q _ ρ _ G H (Ex.refl G) k (.tup (h G) (hs G)) p
/-- an operation on values that makes nothing -/
def OpV (Γ : Ctx) (r : R2) (x y z : D) : Prop := ∀ G H vx vy (Q : VK), Ex G H → Rep Γ.K G vx x → Rep Γ.K G vy y → (∀ v, Rep Γ.K G v z → Q v H) → r vx vy H Q
theorem ew_op {r : R2} (h : EW Γ ta ρ fun x ρ1 => EW Γ tb ρ1 fun y ρ2 => ∃ z, OpV Γ r x y z ∧ Φ z ρ2) : EW Γ (tOp r ta tb) ρ Φ := fun σ G H Q k q =>
  h σ G H _ k fun x ρ1 vx G1 H1 e1 k1 r1 h1 => h1 σ G1 H1 _ k1 fun y ρ2 vy G2 H2 e2 k2 r2 ⟨z, h2, p⟩ =>
    h2 G2 H2 vx vy Q k2.gh (r1.mono e2) r2 fun v rv => q z ρ2 v G2 H2 (e1.trans e2) k2 rv p
theorem opv_int {g : Int → Int → Int} {i j : Int} : OpV Γ (rI0 fun i j => .int (g i j)) (.int i) (.int j) (.int (g i j)) := fun G H vx vy Q e hx hy q => by
  cases hx
  cases hy
  exact ⟨i, j, rfl, rfl, q _ (.int _)⟩
theorem opv_intC {C : Int → Int → Prop} {g : Int → Int → Int} {i j : Int} (c : C i j) : OpV Γ (rI C fun i j => .int (g i j)) (.int i) (.int j) (.int (g i j)) := fun G H vx vy Q e hx hy q => by
  cases hx
  cases hy
  exact ⟨i, j, rfl, rfl, c, q _ (.int _)⟩
theorem opv_cmp {g : Int → Int → Bool} {i j : Int} : OpV Γ (rI0 fun i j => .bl (g i j)) (.int i) (.int j) (.bl (g i j)) := fun G H vx vy Q e hx hy q => by
  cases hx
  cases hy
  exact ⟨i, j, rfl, rfl, q _ (.bl _)⟩
theorem dec_int {i j : Int} : decide (V.int i = V.int j) = decide (i = j) := by
  by_cases h : i = j
  · subst h; simp
  · simp [h]
theorem dec_bl {i j : Bool} : decide (V.bl i = V.bl j) = decide (i = j) := by
  by_cases h : i = j
  · subst h; simp
  · simp [h]
theorem dec_str {i j : Str} : decide (V.str i = V.str j) = decide (i = j) := by
  by_cases h : i = j
  · subst h; simp
  · simp [h]
theorem opv_eq {i j : Int} : OpV Γ rEq (.int i) (.int j) (.bl (decide (i = j))) := fun G H vx vy Q e hx hy q => by
  cases hx
  cases hy
  refine ⟨rfl, ?_⟩
  rw [dec_int]
  exact q _ (.bl _)
theorem opv_ne {i j : Int} : OpV Γ rNe (.int i) (.int j) (.bl (!decide (i = j))) := fun G H vx vy Q e hx hy q => by
  cases hx
  cases hy
  refine ⟨rfl, ?_⟩
  rw [dec_int]
  exact q _ (.bl _)
theorem opv_eqB {i j : Bool} : OpV Γ rEq (.bl i) (.bl j) (.bl (decide (i = j))) := fun G H vx vy Q e hx hy q => by
  cases hx
  cases hy
  refine ⟨rfl, ?_⟩
  rw [dec_bl]
  exact q _ (.bl _)
theorem opv_eqS {i j : Str} : OpV Γ rEq (.str i) (.str j) (.bl (decide (i = j))) := fun G H vx vy Q e hx hy q => by
  cases hx
  cases hy
  refine ⟨rfl, ?_⟩
  rw [dec_str]
  exact q _ (.bl _)
theorem ew_neg {f : Int → Int} (h : EW Γ ta ρ fun x ρ1 => ∃ i, x = .int i ∧ Φ (.int (f i)) ρ1) : EW Γ (tUn (rU fun i => .int (f i)) ta) ρ Φ := fun σ G H Q k q =>
  h σ G H _ k fun x ρ1 vx G1 H1 e1 k1 r1 ⟨i, hi, p⟩ => by
    subst hi
    cases r1
    exact ⟨i, rfl, q _ ρ1 _ G1 H1 e1 k1 (.int _) p⟩
theorem ew_isN (h : EW Γ ta ρ fun x ρ1 => Φ (.bl (match x with | .non => true | _ => false)) ρ1) : EW Γ (tOp (fun x y H Q => y = .non ∧ Q (.bl (decide (x = .non))) H) ta (tC .non)) ρ Φ := fun σ G H Q k q =>
  h σ G H _ k fun x ρ1 vx G1 H1 e1 k1 r1 p => ⟨rfl, by
    refine q _ ρ1 _ G1 H1 e1 k1 ?_ p
    cases r1 <;> exact .bl _⟩
/-! ### tests -/
theorem tw_test (h : EW Γ ta ρ fun x ρ1 => ∃ b, x = .bl b ∧ Θ b ρ1) : TW Γ (tTest ta) ρ Θ := fun σ G H Q k q =>
  h σ G H _ k fun x ρ1 vx G1 H1 e1 k1 r1 ⟨b, hb, p⟩ => by
    subst hb
    cases r1
    exact ⟨b, rfl, q b ρ1 G1 H1 e1 k1 p⟩
theorem tw_B (h : EW Γ ta ρ fun x ρ1 => ∃ b, x = .bl b ∧ Θ b ρ1) : TW Γ (tB ta) ρ Θ := fun σ G H Q k q =>
  h σ G H _ k fun x ρ1 vx G1 H1 e1 k1 r1 ⟨b, hb, p⟩ => by
    subst hb
    cases r1
    exact ⟨b, rfl, q b ρ1 G1 H1 e1 k1 p⟩
theorem tw_not (h : TW Γ tt ρ fun b ρ1 => Θ (!b) ρ1) : TW Γ (tNot tt) ρ Θ := fun σ G H Q k q => h σ G H _ k fun b ρ1 G1 H1 e1 k1 p => q (!b) ρ1 G1 H1 e1 k1 p
theorem tw_and (h : TW Γ tt ρ fun b ρ1 => (b = true → TW Γ tu ρ1 Θ) ∧ (b = false → Θ false ρ1)) : TW Γ (tAnd tt tu) ρ Θ := fun σ G H Q k q => h σ G H _ k fun b ρ1 G1 H1 e1 k1 p => by
  cases b with
  | true => exact iteT (p.1 rfl σ G1 H1 Q k1 fun b' ρ2 G2 H2 e2 k2 p2 => q b' ρ2 G2 H2 (e1.trans e2) k2 p2)
  | false => exact iteF (q false ρ1 G1 H1 e1 k1 (p.2 rfl))
theorem tw_or (h : TW Γ tt ρ fun b ρ1 => (b = true → Θ true ρ1) ∧ (b = false → TW Γ tu ρ1 Θ)) : TW Γ (tOr tt tu) ρ Θ := fun σ G H Q k q => h σ G H _ k fun b ρ1 G1 H1 e1 k1 p => by
  cases b with
  | true => exact iteT (q true ρ1 G1 H1 e1 k1 (p.1 rfl))
  | false => exact iteF (p.2 rfl σ G1 H1 Q k1 fun b' ρ2 G2 H2 e2 k2 p2 => q b' ρ2 G2 H2 (e1.trans e2) k2 p2)
theorem ew_andV (h : EW Γ ta ρ fun x ρ1 => ∃ b, x = .bl b ∧ (b = true → EW Γ tb ρ1 Φ) ∧ (b = false → Φ (.bl false) ρ1)) : EW Γ (tAndV ta tb) ρ Φ := fun σ G H Q k q =>
  h σ G H _ k fun x ρ1 vx G1 H1 e1 k1 r1 ⟨b, hb, p1, p2⟩ => by
    subst hb
    cases r1
    refine ⟨b, rfl, ?_⟩
    cases b with
    | true => exact iteT (p1 rfl σ G1 H1 Q k1 fun d ρ2 v G2 H2 e2 k2 r2 p => q d ρ2 v G2 H2 (e1.trans e2) k2 r2 p)
    | false => exact iteF (q _ ρ1 _ G1 H1 e1 k1 (.bl _) (p2 rfl))
theorem ew_orV (h : EW Γ ta ρ fun x ρ1 => ∃ b, x = .bl b ∧ (b = true → Φ (.bl true) ρ1) ∧ (b = false → EW Γ tb ρ1 Φ)) : EW Γ (tOrV ta tb) ρ Φ := fun σ G H Q k q =>
  h σ G H _ k fun x ρ1 vx G1 H1 e1 k1 r1 ⟨b, hb, p1, p2⟩ => by
    subst hb
    cases r1
    refine ⟨b, rfl, ?_⟩
    cases b with
    | true => exact iteT (q _ ρ1 _ G1 H1 e1 k1 (.bl _) (p1 rfl))
    | false => exact iteF (p2 rfl σ G1 H1 Q k1 fun d ρ2 v G2 H2 e2 k2 r2 p => q d ρ2 v G2 H2 (e1.trans e2) k2 r2 p)
theorem ew_notV (h : EW Γ ta ρ fun x ρ1 => ∃ b, x = .bl b ∧ Φ (.bl (!b)) ρ1) : EW Γ (tNotV ta) ρ Φ := fun σ G H Q k q =>
  h σ G H _ k fun x ρ1 vx G1 H1 e1 k1 r1 ⟨b, hb, p⟩ => by
    subst hb
    cases r1
    exact ⟨b, rfl, q _ ρ1 _ G1 H1 e1 k1 (.bl _) p⟩
theorem ew_if (h : TW Γ tt ρ fun b ρ1 => (b = true → EW Γ ta ρ1 Φ) ∧ (b = false → EW Γ tb ρ1 Φ)) : EW Γ (tIf tt ta tb) ρ Φ := fun σ G H Q k q => h σ G H _ k fun b ρ1 G1 H1 e1 k1 p => by
  cases b with
  | true => exact iteT (p.1 rfl σ G1 H1 Q k1 fun d ρ2 v G2 H2 e2 k2 r2 p => q d ρ2 v G2 H2 (e1.trans e2) k2 r2 p)
  | false => exact iteF (p.2 rfl σ G1 H1 Q k1 fun d ρ2 v G2 H2 e2 k2 r2 p => q d ρ2 v G2 H2 (e1.trans e2) k2 r2 p)
theorem ew_chain {r r' : R2} (h : EW Γ ta ρ fun x ρ1 => EW Γ tb ρ1 fun y ρ2 => ∃ b, OpV Γ r x y (.bl b) ∧ (b = true → EW Γ tc ρ2 fun w ρ3 => ∃ z, OpV Γ r' y w z ∧ Φ z ρ3) ∧ (b = false → Φ (.bl false) ρ2)) : EW Γ (tChain r r' ta tb tc) ρ Φ := fun σ G H Q k q =>
  h σ G H _ k fun x ρ1 vx G1 H1 e1 k1 r1 h1 => h1 σ G1 H1 _ k1 fun y ρ2 vy G2 H2 e2 k2 r2 ⟨b, h2, p1, p2⟩ =>
    h2 G2 H2 vx vy _ k2.gh (r1.mono e2) r2 fun v rv => by
      cases rv
      refine ⟨b, rfl, ?_⟩
      cases b with
      | true => exact iteT (p1 rfl σ G2 H2 _ k2 fun w ρ3 vw G3 H3 e3 k3 r3 ⟨z, h3, p⟩ => h3 G3 H3 vy vw Q k3.gh (r2.mono e3) r3 fun v rv => q z ρ3 v G3 H3 ((e1.trans e2).trans e3) k3 rv p)
      | false => exact iteF (q _ ρ2 _ G2 H2 (e1.trans e2) k2 (.bl _) (p2 rfl))
/-! ### arguments, displays -/
theorem aw_nil (p : Λ [] ρ) : AW Γ tNil ρ Λ := fun σ G H Q k q => q [] ρ [] G H (Ex.refl G) k .nil p
theorem aw_cons {ts : TA} (h : EW Γ ta ρ fun d ρ1 => AW Γ ts ρ1 fun ds ρ2 => Λ (d :: ds) ρ2) : AW Γ (tCons ta ts) ρ Λ := fun σ G H Q k q =>
  h σ G H _ k fun d ρ1 v G1 H1 e1 k1 r1 h1 => h1 σ G1 H1 _ k1 fun ds ρ2 vs G2 H2 e2 k2 r2 p => q (d :: ds) ρ2 (v :: vs) G2 H2 (e1.trans e2) k2 (.cons (r1.mono e2) r2) p
theorem ew_tup {ts : TA} (h : AW Γ ts ρ fun ds ρ1 => ds.length ≤ 100000 ∧ Φ (.tup ds) ρ1) : EW Γ (tTup ts) ρ Φ := fun σ G H Q k q =>
  h σ G H _ k fun ds ρ1 vs G1 H1 e1 k1 r1 ⟨hl, p⟩ => ⟨Evl.sz_of (by rw [r1.length]; exact hl), fun a ha => by
    obtain ⟨k2, e2⟩ := k1.new (o := .tup vs) ha
    exact q _ ρ1 _ _ _ (e1.trans e2) k2 (.tup (SqT.of upd_same) (r1.mono e2)) p⟩
theorem ew_lst {ts : TA} (h : AW Γ ts ρ fun ds ρ1 => ds.length ≤ 100000 ∧ Φ (.lst ds) ρ1) : EW Γ (tLst ts) ρ Φ := fun σ G H Q k q =>
  h σ G H _ k fun ds ρ1 vs G1 H1 e1 k1 r1 ⟨hl, p⟩ => ⟨Evl.sz_of (by rw [r1.length]; exact hl), fun a ha => by
    obtain ⟨k2, e2⟩ := k1.new (o := .lst vs) ha
    exact q _ ρ1 _ _ _ (e1.trans e2) k2 (.lst (SqL.of upd_same) (r1.mono e2)) p⟩
/-- a new list of one's own -/
theorem br_newC {G H : Hp} {σ : St} {p : Addr} {vs : HO} {ds : Ct} (k : Ok Γ G H σ ρ) (hp : H p = none) (r : RepC Γ.K G vs ds) : BR Γ G (upd H p vs) σ ρ (.ref p) (.ow ds) := by
  refine ⟨⟨p, vs, rfl, upd_same, r, Evl.fresh_back k.gh hp, fun h => Γ.R.dom H p k.res h hp, ?_⟩, fun es _ a e => ?_⟩
  · cases e : Γ.H p with
    | none => rfl
    | some u => exact absurd hp (k.dm p (by rw [e]; simp))
  · cases e
    refine ⟨fun i o => ?_, fun q hq e => ?_⟩
    · obtain ⟨xs, e1, _⟩ := own_in k o
      rw [hp] at e1
      cases e1
    · obtain ⟨e1, _⟩ := k.cel q hq
      rw [e, hp] at e1
      cases e1
theorem br_new {G H : Hp} {σ : St} {p : Addr} {vs : List V} {ds : List D} (k : Ok Γ G H σ ρ) (hp : H p = none) (r : RepL Γ.K G vs ds) : BR Γ G (upd H p (.lst vs)) σ ρ (.ref p) (.ow (.lst ds)) := br_newC k hp (.lst r)
theorem Ok.lst {G H : Hp} {σ : St} {l : Nat} {ds : List D} (k : Ok Γ G H σ ρ) (h : ρ[l]? = some (some (.ow (.lst ds)))) : ∃ a xs, σ[l]? = some (some (.ref a)) ∧ H a = some (.lst xs) ∧ RepL Γ.K G xs ds := by
  obtain ⟨v, h1, a, o, rfl, g1, g2, _⟩ := k.var l _ h
  cases g2 with
  | lst g2 => exact ⟨a, _, h1, g1, g2⟩
theorem eb_lst {ts : TA} (h : AW Γ ts ρ fun ds ρ1 => ds.length ≤ 100000 ∧ Ψ (.ow (.lst ds)) ρ1) : EB Γ (tLst ts) ρ Ψ := fun σ G H Q k q =>
  h σ G H _ k fun ds ρ1 vs G1 H1 e1 k1 r1 ⟨hl, p⟩ => ⟨Evl.sz_of (by rw [r1.length]; exact hl), fun a ha => q _ ρ1 _ _ _ e1 (k1.newO ha) (br_new k1 ha r1) p⟩

/-! ### calls -/
/-- what a def promises of plain data: C, from its arguments, tells when a result (or an exception) is right -/
abbrev Cn := PySem.W.Frag → Addr → List D → (B → Prop) → (Addr → Str → D → Prop) → Prop
def BVr (K : PySem.W.Frag) (R : Rsc) (G H H0 : Hp) (v : V) : B → Prop
  | .fz d => Rep K G v d
  | .ow ds => ∃ a xs, v = .ref a ∧ H a = some xs ∧ RepC K G xs ds ∧ G a = none ∧ ¬ R.F a ∧ H0 a = none
/-- the state behind a call that was made at G, H -/
structure Aft (R : Rsc) (G H G' H' : Hp) : Prop where
  gg : Ex G G'
  gh : Ex G' H'
  res : R.I H'
  rg : ∀ a, R.F a → G' a = none
  nw : ∀ a, G a = none → H a ≠ none → G' a = none
  fr : ∀ a o, ¬ R.F a → H a = some o → H' a = some o
  dm : ∀ a, H a ≠ none → H' a ≠ none
def SpD (K : PySem.W.Frag) (Fam : Rsc → Prop) (C : Cn) : Sp := fun vs H Q E => ∃ (R : Rsc) (G : Hp) (ds : List D) (Ψ : B → Prop) (Ξ : Addr → Str → D → Prop), Fam R ∧ R.I H ∧ (∀ a, R.F a → G a = none) ∧ Ex G H ∧ RepL K G vs ds ∧ C K R.w ds Ψ Ξ ∧
  (∀ b v G' H', Aft R G H G' H' → BVr K R G' H' H v b → Ψ b → Q v H') ∧
  (∀ Cl f v d dd G' H', Aft R G H G' H' → H' dd = some (.xd [(f, v)]) → H dd = none → Rep K G' v d → Ξ Cl f d → E (.ref Cl) (some dd) H')
/-- an exception's field in its own dict, newly made -/
structure XC (Γ : Ctx) (H' : Hp) (dd : Addr) (f : Str) (v : V) : Prop where
  at_ : H' dd = some (.xd [(f, v)])
  nf : ¬ Γ.R.F dd
  nx : ∀ p ∈ Γ.X, p.1 ≠ dd
  nh : Γ.H dd = none
/-- what a def's body knows of the wish of exceptions -/
def KE (Γ : Ctx) (Ξ : Addr → Str → D → Prop) (E : XK) : Prop := ∀ C f v d dd σ' ρ' G' H', Ok Γ G' H' σ' ρ' → XC Γ H' dd f v → Rep Γ.K G' v d → Ξ C f d → E (.ref C) (some dd) H'
abbrev NoX : Addr → Str → D → Prop := fun _ _ _ => False
theorem Ok.aft {G G' H H' : Hp} {σ : St} (k : Ok Γ G H σ ρ) (a : Aft Γ.R G H G' H') : Ok Γ G' H' σ ρ := k.grow a.gg a.gh a.nw a.fr a.dm a.res a.rg
theorem Aft.no {R : Rsc} {G G' H H' : Hp} (hr : R.I H) (hg : ∀ a, R.F a → G a = none) (hG : Ex G H) (a : Aft Rsc.no G H G' H') : Aft R G H G' H' where
  gg := a.gg
  gh := a.gh
  res := R.st H H' hr fun b hb => by
    cases e : H b with
    | none => exact absurd e (R.dom H b hr hb)
    | some o => exact a.fr b o (fun z => z) e
  rg := fun b hb => a.nw b (hg b hb) (R.dom H b hr hb)
  nw := a.nw
  fr := fun b o _ h => a.fr b o (fun z => z) h
  dm := a.dm
theorem br_of {G G' H H' : Hp} {σ : St} {v : V} {b : B} (k : Ok Γ G H σ ρ) (h : BVr Γ.K Γ.R G' H' H v b) : BR Γ G' H' σ ρ v b := by
  cases b with
  | fz d => exact .fz h
  | ow ds =>
    obtain ⟨a, xs, rfl, h1, h2, h3, h4, h5⟩ := h
    refine ⟨⟨a, xs, rfl, h1, h2, h3, h4, ?_⟩, fun es _ c e => ?_⟩
    · cases e : Γ.H a with
      | none => rfl
      | some u => exact absurd h5 (k.dm a (by rw [e]; simp))
    · cases e
      refine ⟨fun i o => ?_, fun q hq e => ?_⟩
      · obtain ⟨xs, e1, _⟩ := own_in k o
        rw [h5] at e1
        cases e1
      · obtain ⟨e1, _⟩ := k.cel q hq
        rw [e, h5] at e1
        cases e1
/-- a call of a def that draws nothing -/
theorem eb_callP {K : PySem.W.Frag} {C : Cn} {Fam : Rsc → Prop} {ts : TA} {E : XK} (hK : K = Γ.K) (hF : Fam Rsc.no) (h : AW Γ ts ρ fun ds ρ1 => C Γ.K 0 ds (fun b => Ψ b ρ1) NoX) : EB Γ (tCall (SpD K Fam C) [] E ts) ρ Ψ := fun σ G H Q k q =>
  h σ G H _ k fun ds ρ1 vs G1 H1 e1 k1 r1 hc => by
    subst hK
    show SpD Γ.K Fam C (vs ++ []) H1 Q E
    rw [List.append_nil]
    refine ⟨Rsc.no, G1, ds, _, NoX, hF, trivial, fun _ z => z.elim, k1.gh, r1, hc, fun b v G' H' a hb p => ?_, fun _ _ _ _ _ _ _ _ _ _ _ z => z.elim⟩
    have a' := Aft.no k1.res k1.rg k1.gh a
    refine q b ρ1 v G' H' (e1.trans a.gg) (k1.aft a') (br_of k1 ?_) p
    cases b with
    | fz d => exact hb
    | ow ds =>
      obtain ⟨c, xs, e, h1, h2, h3, h4, h5⟩ := hb
      exact ⟨c, xs, e, h1, h2, h3, fun z => Γ.R.dom H1 c k1.res z h5, h5⟩
/-- a call of a def that draws from the resource -/
theorem eb_callR {K : PySem.W.Frag} {C : Cn} {Fam : Rsc → Prop} {ts : TA} {E : XK} (hK : K = Γ.K) (hF : Fam Γ.R) (h : AW Γ ts ρ fun ds ρ1 => C Γ.K Γ.R.w ds (fun b => Ψ b ρ1) NoX) : EB Γ (tCall (SpD K Fam C) [] E ts) ρ Ψ := fun σ G H Q k q =>
  h σ G H _ k fun ds ρ1 vs G1 H1 e1 k1 r1 hc => by
    subst hK
    show SpD Γ.K Fam C (vs ++ []) H1 Q E
    rw [List.append_nil]
    exact ⟨Γ.R, G1, ds, _, NoX, hF, k1.res, k1.rg, k1.gh, r1, hc, fun b v G' H' a hb p => q b ρ1 v G' H' (e1.trans a.gg) (k1.aft a) (br_of k1 hb) p, fun _ _ _ _ _ _ _ _ _ _ _ z => z.elim⟩
/-- a result as data -/
@[reducible] def asD : B → D
  | .fz d => d
  | .ow c => c.d
theorem ew_of_eb (h : EB Γ te ρ fun b ρ1 => Φ (asD b) ρ1) : EW Γ te ρ Φ := fun σ G H Q k q => h σ G H Q k fun b ρ1 v G1 H1 e1 k1 r1 p => by
  cases b with
  | fz d => exact q d ρ1 v G1 H1 e1 k1 r1.1 p
  | ow ds =>
    obtain ⟨⟨a, xs, rfl, h1, h2, h3, h4, h5⟩, hn⟩ := r1
    -- the list is frozen
    have gg : Ex G1 (upd G1 a xs) := Ex.new h3
    refine q ds.d ρ1 _ (upd G1 a xs) H1 (e1.trans gg) ?_ ((RepC.mono gg h2).rep upd_same) p
    refine ⟨fun b o h => ?_, k1.g0.trans gg, fun b g1 g2 => ?_, k1.fr, k1.dm, k1.res, fun b h => by rw [upd_ne fun e => h4 (by rw [← e]; exact h)]; exact k1.rg b h, k1.len, fun j b h => ?_, k1.dj, fun p hp => ?_, k1.nx⟩
    · by_cases e : b = a
      · subst e
        rw [upd_same] at h
        cases h
        exact h1
      · rw [upd_ne e] at h
        exact k1.gh b o h
    · rw [upd_ne fun e => g2 (by rw [e]; exact h5)]
      exact k1.nw b g1 g2
    · obtain ⟨v, g1, g2⟩ := k1.var j b h
      refine ⟨v, g1, ?_⟩
      cases b with
      | fz d => exact Rep.mono gg g2
      | ow es =>
        obtain ⟨c, ys, rfl, q1, q2, q3, q4, q5⟩ := g2
        have hc : c ≠ a := fun e => (hn ds rfl a rfl).1 j ⟨by rw [g1, e], es, h⟩
        exact ⟨c, ys, rfl, q1, RepC.mono gg q2, by rw [upd_ne hc]; exact q3, q4, q5⟩
    · obtain ⟨e1, e2, e3⟩ := k1.cel p hp
      exact ⟨e1, by rw [upd_ne ((hn ds rfl a rfl).2 p hp)]; exact e2, e3⟩
theorem ew_callP {K : PySem.W.Frag} {C : Cn} {Fam : Rsc → Prop} {ts : TA} {E : XK} (hK : K = Γ.K) (hF : Fam Rsc.no) (h : AW Γ ts ρ fun ds ρ1 => C Γ.K 0 ds (fun b => Φ (asD b) ρ1) NoX) : EW Γ (tCall (SpD K Fam C) [] E ts) ρ Φ := ew_of_eb (eb_callP hK hF h)
theorem ew_callR {K : PySem.W.Frag} {C : Cn} {Fam : Rsc → Prop} {ts : TA} {E : XK} (hK : K = Γ.K) (hF : Fam Γ.R) (h : AW Γ ts ρ fun ds ρ1 => C Γ.K Γ.R.w ds (fun b => Φ (asD b) ρ1) NoX) : EW Γ (tCall (SpD K Fam C) [] E ts) ρ Φ := ew_of_eb (eb_callR hK hF h)
/-- from the promise to the body -/
theorem body_ok {K : PySem.W.Frag} {Fam : Rsc → Prop} {C : Cn} {N : List Str} {t : TS} {vs : List V} {H : Hp} {Q : VK} {E : XK} (n : Nat) (hn : n ≤ N.length) (hlen : ∀ K w ds Ψ Ξ, C K w ds Ψ Ξ → ds.length = n) (h : SpD K Fam C vs H Q E)
    (hb : ∀ (Γ : Ctx) (ds : List D) (Ψ : B → Prop) (Ξ : Addr → Str → D → Prop), Γ.K = K → Γ.X = [] → Fam Γ.R → C K Γ.R.w ds Ψ Ξ → KE Γ Ξ E →
      SW Γ t (ds.map (fun d => some (.fz d)) ++ List.replicate (N.length - ds.length) none) { nx := fun _ => Ψ (.fz .non), rt := Ψ, bk := fun _ => False, ct := fun _ => False, xr := fun _ => Ξ }) :
    t { nx := fun _ H' => Q .non H', rt := Q } (start N vs) H := by
  obtain ⟨R, G, ds, Ψ, Ξ, hF, hr, hg, hG, rl, hc, kq, ke⟩ := h
  have hl := rl.length
  have hk : Ok ⟨K, G, H, R, []⟩ G H (L2.start N vs) (ds.map (fun d => some (.fz d)) ++ List.replicate (N.length - ds.length) none) := by
    refine ⟨hG, Ex.refl G, fun a h _ => h, fun a o _ h => h, fun a h => h, hr, hg, ?_, fun i b h => ?_, fun i j a ⟨_, es, q⟩ _ => ?_, fun p hp => absurd hp (by simp), fun i a _ p hp => absurd hp (by simp)⟩
    · unfold L2.start
      rw [List.length_append, List.length_append, List.length_map, List.length_map, List.length_replicate, List.length_replicate, hl]
    · have hlt : i < ds.length := by
        by_cases hi : i < ds.length
        · exact hi
        · exfalso
          rw [List.getElem?_append_right (by rw [List.length_map]; omega)] at h
          obtain ⟨_, e⟩ := List.getElem?_eq_some_iff.mp h
          rw [List.getElem_replicate] at e
          cases e
      rw [List.getElem?_append_left (by rw [List.length_map]; exact hlt), List.getElem?_map] at h
      obtain ⟨d, hd⟩ : ∃ d, ds[i]? = some d := ⟨ds[i], List.getElem?_eq_getElem hlt⟩
      rw [hd] at h
      cases h
      obtain ⟨v, hv, rv⟩ := rl.getD hd
      refine ⟨v, ?_, rv⟩
      unfold L2.start
      rw [List.getElem?_append_left (by rw [List.length_map, hl]; exact hlt), List.getElem?_map, hv]
      rfl
    · exfalso
      have hlt : i < ds.length := by
        by_cases hi : i < ds.length
        · exact hi
        · exfalso
          rw [List.getElem?_append_right (by rw [List.length_map]; omega)] at q
          obtain ⟨_, e⟩ := List.getElem?_eq_some_iff.mp q
          rw [List.getElem_replicate] at e
          cases e
      rw [List.getElem?_append_left (by rw [List.length_map]; exact hlt), List.getElem?_map] at q
      cases hd : ds[i]? with
      | none =>
        rw [hd] at q
        cases q
      | some d =>
        rw [hd] at q
        cases q
  have aft : ∀ {G' H' : Hp} {σ' : St} {ρ' : Env}, Ok ⟨K, G, H, R, []⟩ G' H' σ' ρ' → Aft R G H G' H' := fun k => ⟨k.g0, k.gh, k.res, k.rg, k.nw, k.fr, k.dm⟩
  refine hb ⟨K, G, H, R, []⟩ ds Ψ Ξ rfl rfl hF hc (fun C f v d dd σ' ρ' G' H' k x rv xi => ke C f v d dd G' H' (aft k) x.at_ x.nh rv xi) _ G H _ hk (fun ρ' σ' G' H' _ k p => kq (.fz .non) _ G' H' (aft k) (Rep.non : Rep K G' V.non D.non) p) (fun b v σ' ρ' G' H' k r p => kq b v G' H' (aft k) ?_ p) (fun _ _ _ _ _ _ z => z.elim) (fun _ _ _ _ _ _ z => z.elim)
  have r1 := r.1
  cases b with
  | fz d => exact r1
  | ow es => exact r1
/-! ### statements -/
variable {ts tu : TS} {Δ : Fin}
theorem sw_next (p : Δ.nx ρ) : SW Γ tNext ρ Δ := fun σ G H D k hn hr hb hc => hn ρ σ G H (Ex.refl G) k p
theorem sw_brk (p : Δ.bk ρ) : SW Γ tBreak ρ Δ := fun σ G H D k hn hr hb hc => hb ρ σ G H (Ex.refl G) k p
theorem sw_cont (p : Δ.ct ρ) : SW Γ tCont ρ Δ := fun σ G H D k hn hr hb hc => hc ρ σ G H (Ex.refl G) k p
theorem sw_seq (h : SW Γ ts ρ { Δ with nx := fun ρ1 => SW Γ tu ρ1 Δ }) : SW Γ (tSeq ts tu) ρ Δ := fun σ G H D k hn hr hb hc =>
  h σ G H { D with nx := tu D } k (fun ρ1 σ1 G1 H1 e k1 p => p σ1 G1 H1 D k1 (fun ρ' σ' G' H' e' => hn ρ' σ' G' H' (e.trans e')) hr (fun ρ' σ' G' H' e' => hb ρ' σ' G' H' (e.trans e')) (fun ρ' σ' G' H' e' => hc ρ' σ' G' H' (e.trans e'))) hr hb hc
theorem sw_asg {i : Nat} (h : EW Γ te ρ fun d ρ1 => Δ.nx (ρ1.set i (some (.fz d)))) : SW Γ (tAsg te (gName i)) ρ Δ := fun σ G H D k hn hr hb hc =>
  h σ G H _ k fun d ρ1 v G1 H1 e1 k1 r1 p => hn _ _ G1 H1 e1 (k1.store (.fz r1)) p
theorem sw_asgB {i : Nat} (h : EB Γ te ρ fun b ρ1 => Δ.nx (ρ1.set i (some b))) : SW Γ (tAsg te (gName i)) ρ Δ := fun σ G H D k hn hr hb hc =>
  h σ G H _ k fun b ρ1 v G1 H1 e1 k1 r1 p => hn _ _ G1 H1 e1 (k1.store r1) p
theorem sw_drop (h : EW Γ te ρ fun d ρ1 => Δ.nx ρ1) : SW Γ (tDrop te) ρ Δ := fun σ G H D k hn hr hb hc =>
  h σ G H _ k fun d ρ1 v G1 H1 e1 k1 r1 p => hn _ _ G1 H1 e1 k1 p
theorem sw_ret (h : EW Γ te ρ fun d ρ1 => Δ.rt (.fz d)) : SW Γ (tRet te) ρ Δ := fun σ G H D k hn hr hb hc =>
  h σ G H _ k fun d ρ1 v G1 H1 e1 k1 r1 p => hr _ v σ ρ1 G1 H1 k1 (.fz r1) p
theorem sw_retB (h : EB Γ te ρ fun b ρ1 => Δ.rt b) : SW Γ (tRet te) ρ Δ := fun σ G H D k hn hr hb hc =>
  h σ G H _ k fun b ρ1 v G1 H1 e1 k1 r1 p => hr _ v σ ρ1 G1 H1 k1 r1 p
theorem sw_retN (p : Δ.rt (.fz .non)) : SW Γ tRetN ρ Δ := fun σ G H D k hn hr hb hc => hr (.fz .non) .non σ ρ G H k (.fz (Rep.non : Rep Γ.K G V.non Dl.D.non)) p
/-- return x, x a list of one's own -/
theorem sw_retO {i : Nat} {ds : Ct} (h : ρ[i]? = some (some (.ow ds))) (p : Δ.rt (.ow ds)) : SW Γ (tRet (tVar i)) ρ Δ := fun σ G H D k hn hr hb hc => by
  obtain ⟨v, h1, h2⟩ := k.var i _ h
  refine ⟨v, h1, hr _ v σ (ρ.set i none) G H (k.weak (by rw [List.length_set]) fun j b e => ?_) ⟨h2, fun es _ a e => ⟨fun j o => ?_, k.nx i a ⟨by rw [h1, e], ds, h⟩⟩⟩ p⟩
  · by_cases hj : j = i
    · subst hj
      rw [List.getElem?_set_self (List.getElem?_eq_some_iff.mp h).1] at e
      cases e
    · rw [List.getElem?_set_ne (Ne.symm hj)] at e
      exact e
  · obtain ⟨q1, fs, q2⟩ := o
    by_cases hj : j = i
    · subst hj
      rw [List.getElem?_set_self (List.getElem?_eq_some_iff.mp h).1] at q2
      cases q2
    · rw [List.getElem?_set_ne (Ne.symm hj)] at q2
      exact hj (k.dj j i a ⟨q1, fs, q2⟩ ⟨by rw [h1, e], ds, h⟩)
theorem sw_if (h : TW Γ tt ρ fun b ρ1 => (b = true → SW Γ ts ρ1 Δ) ∧ (b = false → SW Γ tu ρ1 Δ)) : SW Γ (tIfS tt ts tu) ρ Δ := fun σ G H D k hn hr hb hc =>
  h σ G H _ k fun b ρ1 G1 H1 e1 k1 p => by
    have hn' : ∀ ρ' σ' G' H', Ex G1 G' → Ok Γ G' H' σ' ρ' → Δ.nx ρ' → D.nx σ' H' := fun ρ' σ' G' H' e' => hn ρ' σ' G' H' (e1.trans e')
    have hb' : ∀ ρ' σ' G' H', Ex G1 G' → Ok Γ G' H' σ' ρ' → Δ.bk ρ' → D.bk σ' H' := fun ρ' σ' G' H' e' => hb ρ' σ' G' H' (e1.trans e')
    have hc' : ∀ ρ' σ' G' H', Ex G1 G' → Ok Γ G' H' σ' ρ' → Δ.ct ρ' → D.ct σ' H' := fun ρ' σ' G' H' e' => hc ρ' σ' G' H' (e1.trans e')
    cases b with
    | true => exact iteT (p.1 rfl σ G1 H1 D k1 hn' hr hb' hc')
    | false => exact iteF (p.2 rfl σ G1 H1 D k1 hn' hr hb' hc')
theorem sw_imp {Δ' : Fin} (h : SW Γ ts ρ Δ') (h1 : ∀ ρ', Δ'.nx ρ' → Δ.nx ρ') (h2 : ∀ b, Δ'.rt b → Δ.rt b) (h3 : ∀ ρ', Δ'.bk ρ' → Δ.bk ρ') (h4 : ∀ ρ', Δ'.ct ρ' → Δ.ct ρ') : SW Γ ts ρ Δ := fun σ G H D k hn hr hb hc =>
  h σ G H D k (fun ρ' σ' G' H' e k' p => hn ρ' σ' G' H' e k' (h1 ρ' p)) (fun b v σ' ρ' G' H' k' r p => hr b v σ' ρ' G' H' k' r (h2 b p)) (fun ρ' σ' G' H' e k' p => hb ρ' σ' G' H' e k' (h3 ρ' p)) (fun ρ' σ' G' H' e k' p => hc ρ' σ' G' H' e k' (h4 ρ' p))
/-- slots forgotten, a list frozen: anywhere -/
theorem sw_weak {ρ' : Env} (hl : ρ'.length = ρ.length) (hs : ∀ (i : Nat) (b : B), ρ'[i]? = some (some b) → ρ[i]? = some (some b)) (h : SW Γ ts ρ' Δ) : SW Γ ts ρ Δ := fun σ G H D k => h σ G H D (k.weak hl hs)
theorem sw_freeze {i : Nat} {ds : Ct} (hi : ρ[i]? = some (some (.ow ds))) (h : SW Γ ts (ρ.set i (some (.fz ds.d))) Δ) : SW Γ ts ρ Δ := fun σ G H D k hn hr hb hc => by
  obtain ⟨v, h1, a, xs, rfl, _⟩ := k.var i _ hi
  obtain ⟨G', e, k', _⟩ := k.freeze hi h1
  exact h σ G' H D k' (fun ρ' σ' G2 H' e' => hn ρ' σ' G2 H' (e.trans e')) hr (fun ρ' σ' G2 H' e' => hb ρ' σ' G2 H' (e.trans e')) (fun ρ' σ' G2 H' e' => hc ρ' σ' G2 H' (e.trans e'))
/-- a, b = e1, e2 -/
theorem sw_par {i j : Nat} {ta : TA} (h : AW Γ ta ρ fun ds ρ1 => ∃ x y, ds = [x, y] ∧ Δ.nx ((ρ1.set i (some (.fz x))).set j (some (.fz y)))) : SW Γ (tPar i j ta) ρ Δ := fun σ G H D k hn hr hb hc =>
  h σ G H _ k fun ds ρ1 vs G1 H1 e1 k1 r1 ⟨x, y, e, p⟩ => by
    subst e
    cases r1 with
    | cons r1 r2 => cases r2 with
      | cons r2 r3 =>
        cases r3
        exact ⟨_, _, rfl, hn _ _ G1 H1 e1 ((k1.store (.fz r1)).store (.fz r2)) p⟩
/-- the names of a target take the data one by one -/
def gN : List Nat → TGs
  | [] => gNil
  | i :: r => gCons (gName i) (gN r)
def sets (ρ : Env) : List Nat → List D → Env
  | i :: r, d :: ds => sets (ρ.set i (some (.fz d))) r ds
  | _, _ => ρ
theorem gN_ok {G H : Hp} {Q : St → Hp → Prop} : ∀ (is : List Nat) {σ : St} {ρ : Env} {vs : List V} {ds : List D}, Ok Γ G H σ ρ → RepL Γ.K G vs ds → is.length = ds.length → (∀ σ', Ok Γ G H σ' (sets ρ is ds) → Q σ' H) → gN is vs σ H Q
  | [], _, _, _, _, k, .nil, _, q => ⟨rfl, q _ k⟩
  | i :: r, _, _, _, _, k, .cons h hs, e, q => ⟨_, _, rfl, gN_ok r (k.store (.fz h)) hs (by simpa using e) q⟩
/-- the target of a loop: data to slots -/
def GD (Γ : Ctx) (g : TG) (d : D) (ρ ρ' : Env) : Prop := ∀ σ G H v (Q : St → Hp → Prop), Ok Γ G H σ ρ → Rep Γ.K G v d → (∀ σ', Ok Γ G H σ' ρ' → Q σ' H) → g v σ H Q
theorem gd_name {i : Nat} {d : D} : GD Γ (gName i) d ρ (ρ.set i (some (.fz d))) := fun σ G H v Q k r q => q _ (k.store (.fz r))
theorem sq_up {G H : Hp} {a : Addr} {xs : List V} {K : PySem.W.Frag} (e : Ex G H) (h : SqT K G a xs) : SqT K H a xs := Evl.ex_t e h
theorem gd_tup {K : PySem.W.Frag} {is : List Nat} {n : Nat} {g : TGs} {ds : List D} (hK : K = Γ.K) (hg : g = gN is) (h1 : ds.length = n) (h2 : is.length = n) : GD Γ (gTup K n g) (.tup ds) ρ (sets ρ is ds) := fun σ G H v Q k r q => by
  subst hg
  subst hK
  cases r with
  | tup hq hs => exact ⟨_, _, rfl, sq_up k.gh hq, hs.length.trans h1, gN_ok is k hs (h2.trans h1.symm) q⟩
/-- any target -/
theorem sw_asgG {g : TG} (h : EW Γ te ρ fun d ρ1 => ∃ ρ2, GD Γ g d ρ1 ρ2 ∧ Δ.nx ρ2) : SW Γ (tAsg te g) ρ Δ := fun σ G H D k hn hr hb hc =>
  h σ G H _ k fun d ρ1 v G1 H1 e1 k1 r1 ⟨ρ2, g2, p⟩ => g2 σ G1 H1 v _ k1 r1 fun σ' k' => hn _ σ' G1 H1 e1 k' p
/-- a, b = e and a, b, c = e, e a tuple -/
theorem sw_unp2 {K : PySem.W.Frag} {n i j : Nat} (hK : K = Γ.K) (hn : n = 2) (h : EW Γ te ρ fun d ρ1 => ∃ x y, d = .tup [x, y] ∧ Δ.nx ((ρ1.set i (some (.fz x))).set j (some (.fz y)))) : SW Γ (tAsg te (gTup K n (gCons (gName i) (gCons (gName j) gNil)))) ρ Δ := by
  subst hn
  exact sw_asgG (ew_imp h fun d ρ1 ⟨x, y, e, p⟩ => by
    subst e
    exact ⟨_, gd_tup (is := [i, j]) hK rfl rfl rfl, p⟩)
theorem sw_unp3 {K : PySem.W.Frag} {n i j l : Nat} (hK : K = Γ.K) (hn : n = 3) (h : EW Γ te ρ fun d ρ1 => ∃ x y z, d = .tup [x, y, z] ∧ Δ.nx (((ρ1.set i (some (.fz x))).set j (some (.fz y))).set l (some (.fz z)))) : SW Γ (tAsg te (gTup K n (gCons (gName i) (gCons (gName j) (gCons (gName l) gNil))))) ρ Δ := by
  subst hn
  exact sw_asgG (ew_imp h fun d ρ1 ⟨x, y, z, e, p⟩ => by
    subst e
    exact ⟨_, gd_tup (is := [i, j, l]) hK rfl rfl rfl, p⟩)
theorem br_t {A B : Prop} (h : A) : (true = true → A) ∧ (true = false → B) := ⟨fun _ => h, fun z => Bool.noConfusion z⟩
theorem br_f {A B : Prop} (h : B) : (false = true → A) ∧ (false = false → B) := ⟨fun z => Bool.noConfusion z, fun _ => h⟩
theorem len_ok {α : Type} {ds : List α} {P : Prop} (h : Nat.ble ds.length 100000 = true) (p : P) : ds.length ≤ 100000 ∧ P := ⟨Nat.le_of_ble_eq_true h, p⟩
/-- a word between a statement and the rest -/
theorem sw_cut (M : Env → Prop) (h : SW Γ ts ρ { Δ with nx := M }) (k : ∀ ρ', M ρ' → SW Γ tu ρ' Δ) : SW Γ (tSeq ts tu) ρ Δ := sw_seq (sw_imp h k (fun _ p => p) (fun _ p => p) (fun _ p => p))
/-- an if that something follows: where a walk stops -/
theorem sw_isif {tv : TS} (h : SW Γ (tSeq (tIfS tt ts tu) tv) ρ Δ) : SW Γ (tSeq (tIfS tt ts tu) tv) ρ Δ := h
/-- a word behind a statement -/
theorem sw_mid (M : Env → Prop) (h : SW Γ ts ρ { Δ with nx := M }) (k : ∀ ρ', M ρ' → Δ.nx ρ') : SW Γ ts ρ Δ := sw_imp h k (fun _ p => p) (fun _ p => p) (fun _ p => p)
/-! ### loops -/
theorem sw_while (J : Nat → Env → Prop) (m : Nat) (h0 : J m ρ) (hs : ∀ m ρ', J m ρ' → TW Γ tt ρ' fun b ρ1 => (b = true → SW Γ ts ρ1 { Δ with nx := fun ρ2 => ∃ m', m' < m ∧ J m' ρ2, ct := fun ρ2 => ∃ m', m' < m ∧ J m' ρ2, bk := Δ.nx }) ∧ (b = false → Δ.nx ρ1)) : SW Γ (tWhile tt ts) ρ Δ := fun σ G0 H D k hn hr hb hc =>
  ⟨fun m σ H => ∃ G ρ', Ex G0 G ∧ Ok Γ G H σ ρ' ∧ J m ρ', ⟨m, G0, ρ, Ex.refl _, k, h0⟩, fun m σ H ⟨G, ρ', e0, k, hi⟩ => hs m ρ' hi σ G H _ k fun b ρ1 G1 H1 e1 k1 p => by
    cases b with
    | true =>
      refine iteT ⟨fun σ' H' => ∃ m', m' < m ∧ ∃ G ρ', Ex G0 G ∧ Ok Γ G H' σ' ρ' ∧ J m' ρ', fun σ' H' h => h, p.1 rfl σ G1 H1 _ k1 (fun ρ' σ' G' H' e' k' ⟨m', h1, h2⟩ => ⟨m', h1, G', ρ', (e0.trans e1).trans e', k', h2⟩) hr (fun ρ' σ' G' H' e' => hn ρ' σ' G' H' ((e0.trans e1).trans e')) (fun ρ' σ' G' H' e' k' ⟨m', h1, h2⟩ => ⟨m', h1, G', ρ', (e0.trans e1).trans e', k', h2⟩)⟩
    | false => exact iteF (hn ρ1 σ G1 H1 (e0.trans e1) k1 (p.2 rfl))⟩
/-- one turn of a for, from the data's view -/
def Turn1 (Γ : Ctx) (g : TG) (ts : TS) (Δ : Fin) (x : D) (ρ2 : Env) (nxt : Env → Prop) : Prop := ∃ ρ3, GD Γ g x ρ2 ρ3 ∧ SW Γ ts ρ3 { Δ with nx := nxt, ct := nxt, bk := Δ.nx }
theorem Turn1.run {g : TG} {x : D} {nxt : Env → Prop} {G0 G1 G H : Hp} {σ : St} {D : Ends} {v : V} {N : St → Hp → Prop} (t : Turn1 Γ g ts Δ x ρ nxt) (k : Ok Γ G H σ ρ) (e0 : Ex G0 G1) (e : Ex G1 G) (r : Rep Γ.K G v x)
    (hn : ∀ ρ' σ' G' H', Ex G0 G' → Ok Γ G' H' σ' ρ' → Δ.nx ρ' → D.nx σ' H') (hr : ∀ b v σ' ρ' G' H', Ok Γ G' H' σ' ρ' → BR Γ G' H' σ' ρ' v b → Δ.rt b → D.rt v H') (hN : ∀ σ' H', (∃ G ρ', Ex G1 G ∧ Ok Γ G H' σ' ρ' ∧ nxt ρ') → N σ' H') :
    g v σ H fun σ2 H2 => ts { D with nx := N, ct := N, bk := D.nx } σ2 H2 := by
  obtain ⟨ρ3, g3, s3⟩ := t
  refine g3 σ G H v _ k r fun σ' k3 => s3 σ' G H _ k3 (fun ρ' σ' G' H' e' k' p => hN σ' H' ⟨G', ρ', e.trans e', k', p⟩) hr (fun ρ' σ' G' H' e' k' p => hn ρ' σ' G' H' ((e0.trans e).trans e') k' p) (fun ρ' σ' G' H' e' k' p => hN σ' H' ⟨G', ρ', e.trans e', k', p⟩)
theorem sw_forR {ta : TA} {g : TG} (h : AW Γ ta ρ fun ds ρ1 => ∃ n : Int, ds = [.int n] ∧ (n ≤ 2 ^ 61 ∧ -(2 ^ 61) ≤ n) ∧ ∃ J : Nat → Env → Prop, J 0 ρ1 ∧
    (∀ i ρ2, i < n.toNat → J i ρ2 → Turn1 Γ g ts Δ (.int i) ρ2 (J (i + 1))) ∧ (∀ ρ2, J n.toNat ρ2 → Δ.nx ρ2)) : SW Γ (tFor (iRng1 ta) g ts) ρ Δ := fun σ G H D k hn hr hb hc =>
  h σ G H _ k fun ds ρ1 vs G1 H1 e1 k1 r1 ⟨n, e, b1, J, i0, is, id⟩ => by
    subst e
    cases r1 with
    | cons r r' => cases r' with
      | nil =>
        cases r
        exact ⟨n, rfl, by omega, by omega, for_range (lo := 0) (n := n.toNat) (fun i σ H => ∃ G ρ2, Ex G1 G ∧ Ok Γ G H σ ρ2 ∧ J i ρ2) ⟨G1, ρ1, Ex.refl _, k1, i0⟩ (fun i σ H hi ⟨G2, ρ2, e2, k2, p2⟩ => by
          rw [Int.zero_add]
          exact (is i ρ2 hi p2).run k2 e1 e2 (.int _) hn hr fun _ _ h => h) (fun σ H ⟨G2, ρ2, e2, k2, p2⟩ => hn ρ2 σ G2 H (e1.trans e2) k2 (id ρ2 p2))⟩
theorem sw_forR2 {ta : TA} {g : TG} (h : AW Γ ta ρ fun ds ρ1 => ∃ lo n : Int, ds = [.int lo, .int n] ∧ (n ≤ 2 ^ 61 ∧ -(2 ^ 61) ≤ n ∧ lo ≤ 2 ^ 61 ∧ -(2 ^ 61) ≤ lo) ∧ ∃ J : Nat → Env → Prop, J 0 ρ1 ∧
    (∀ i ρ2, i < (n - lo).toNat → J i ρ2 → Turn1 Γ g ts Δ (.int (lo + i)) ρ2 (J (i + 1))) ∧ (∀ ρ2, J (n - lo).toNat ρ2 → Δ.nx ρ2)) : SW Γ (tFor (iRng2 ta) g ts) ρ Δ := fun σ G H D k hn hr hb hc =>
  h σ G H _ k fun ds ρ1 vs G1 H1 e1 k1 r1 ⟨lo, n, e, b1, J, i0, is, id⟩ => by
    subst e
    cases r1 with
    | cons r r' => cases r' with
      | cons r2 r' => cases r' with
        | nil =>
          cases r
          cases r2
          exact ⟨lo, n, rfl, by omega, for_range (lo := lo) (n := (n - lo).toNat) (fun i σ H => ∃ G ρ2, Ex G1 G ∧ Ok Γ G H σ ρ2 ∧ J i ρ2) ⟨G1, ρ1, Ex.refl _, k1, i0⟩ (fun i σ H hi ⟨G2, ρ2, e2, k2, p2⟩ =>
            (is i ρ2 hi p2).run k2 e1 e2 (.int _) hn hr fun _ _ h => h) (fun σ H ⟨G2, ρ2, e2, k2, p2⟩ => hn ρ2 σ G2 H (e1.trans e2) k2 (id ρ2 p2))⟩
/-- what a loop over a sequence asks -/
def Turns (Γ : Ctx) (g : TG) (ts : TS) (Δ : Fin) (ds : List D) (ρ1 : Env) : Prop := ∃ J : Nat → Env → Prop, J 0 ρ1 ∧ (∀ i x ρ2, ds[i]? = some x → J i ρ2 → Turn1 Γ g ts Δ x ρ2 (J (i + 1))) ∧ (∀ ρ2, J ds.length ρ2 → Δ.nx ρ2)
theorem sw_forT {g : TG} {K : PySem.W.Frag} (hK : K = Γ.K) (h : EW Γ te ρ fun d ρ1 => ∃ ds, d = .tup ds ∧ Turns Γ g ts Δ ds ρ1) : SW Γ (tFor (iTup K te) g ts) ρ Δ := fun σ G H D k hn hr hb hc =>
  h σ G H _ k fun d ρ1 v G1 H1 e1 k1 r1 ⟨ds, e, J, i0, is, id⟩ => by
    subst e
    subst hK
    cases r1 with
    | @tup a xs _ hq hs =>
      exact ⟨a, rfl, ⟨xs, sq_up k1.gh hq⟩, for_tup (xs := xs) (fun i σ H => ∃ G ρ2, Ex G1 G ∧ Ok Γ G H σ ρ2 ∧ J i ρ2) ⟨G1, ρ1, Ex.refl _, k1, i0⟩ (fun i σ H _ ⟨G2, ρ2, e2, k2, p2⟩ => sq_up (e2.trans k2.gh) hq) (fun i x σ H hi ⟨G2, ρ2, e2, k2, p2⟩ => by
        obtain ⟨y, hy, ry⟩ := hs.get hi
        exact (is i y ρ2 hy p2).run k2 e1 e2 (ry.mono e2) hn hr fun _ _ h => h) (fun σ H ⟨G2, ρ2, e2, k2, p2⟩ => hn ρ2 σ G2 H (e1.trans e2) k2 (id ρ2 (by rw [← hs.length]; exact p2)))⟩
theorem sw_forL {g : TG} {K : PySem.W.Frag} (hK : K = Γ.K) (h : EW Γ te ρ fun d ρ1 => ∃ ds, d = .lst ds ∧ Turns Γ g ts Δ ds ρ1) : SW Γ (tFor (iList K te) g ts) ρ Δ := fun σ G H D k hn hr hb hc =>
  h σ G H _ k fun d ρ1 v G1 H1 e1 k1 r1 ⟨ds, e, J, i0, is, id⟩ => by
    subst e
    subst hK
    cases r1 with
    | @lst a xs _ hq hs =>
      exact ⟨a, rfl, ⟨xs, Evl.ex_l k1.gh hq⟩, for_list (xs := xs) (fun i σ H => ∃ G ρ2, Ex G1 G ∧ Ok Γ G H σ ρ2 ∧ J i ρ2) ⟨G1, ρ1, Ex.refl _, k1, i0⟩ (fun i σ H _ ⟨G2, ρ2, e2, k2, p2⟩ => Evl.ex_l (e2.trans k2.gh) hq) (fun i x σ H hi ⟨G2, ρ2, e2, k2, p2⟩ => by
        obtain ⟨y, hy, ry⟩ := hs.get hi
        exact (is i y ρ2 hy p2).run k2 e1 e2 (ry.mono e2) hn hr fun _ _ h => h) (fun σ H ⟨G2, ρ2, e2, k2, p2⟩ => hn ρ2 σ G2 H (e1.trans e2) k2 (id ρ2 (by rw [← hs.length]; exact p2)))⟩

/-! ### list comprehensions -/
abbrev Ctx.ext (Γ : Ctx) (c : Addr × HO) : Ctx := { Γ with X := c :: Γ.X }
def wipeE (ρ : Env) : List Nat → Env
  | [] => ρ
  | v :: vs => (wipeE ρ vs).set v none
theorem Ok.wipe1 {G H : Hp} {σ : St} (k : Ok Γ G H σ ρ) (i : Nat) : Ok Γ G H (σ.set i none) (ρ.set i none) := by
  have back : ∀ j c, own (σ.set i none) (ρ.set i none) j c → own σ ρ j c := fun j c ⟨p, es, q⟩ => by
    by_cases hj : j = i
    · subst hj
      have hlt : j < ρ.length := by
        have := (List.getElem?_eq_some_iff.mp q).1
        rwa [List.length_set] at this
      rw [List.getElem?_set_self hlt] at q
      cases q
    · rw [List.getElem?_set_ne (Ne.symm hj)] at p q
      exact ⟨p, es, q⟩
  refine ⟨k.gh, k.g0, k.nw, k.fr, k.dm, k.res, k.rg, by rw [List.length_set, List.length_set]; exact k.len, fun j b h => ?_, fun j l c h1 h2 => k.dj j l c (back j c h1) (back l c h2), k.cel, fun j c h => k.nx j c (back j c h)⟩
  by_cases hj : j = i
  · subst hj
    have hlt : j < ρ.length := by
      have := (List.getElem?_eq_some_iff.mp h).1
      rwa [List.length_set] at this
    rw [List.getElem?_set_self hlt] at h
    cases h
  · rw [List.getElem?_set_ne (Ne.symm hj)] at h ⊢
    exact k.var j b h
theorem Ok.wipe {G H : Hp} {σ : St} (k : Ok Γ G H σ ρ) : ∀ vs : List Nat, Ok Γ G H (L2.wipe σ vs) (wipeE ρ vs)
  | [] => k
  | v :: vs => (Ok.wipe k vs).wipe1 v
/-- a further cell that stands -/
theorem Ok.ext {G H : Hp} {σ : St} {p : Addr} {o : HO} (k : Ok Γ G H σ ρ) (h1 : H p = some o) (h2 : G p = none) (h3 : ¬ Γ.R.F p) (h4 : ∀ i, ¬ own σ ρ i p) : Ok (Γ.ext (p, o)) G H σ ρ :=
  ⟨k.gh, k.g0, k.nw, k.fr, k.dm, k.res, k.rg, k.len, k.var, k.dj, fun q hq => by
    rcases List.mem_cons.mp hq with rfl | hq
    · exact ⟨h1, h2, h3⟩
    · exact k.cel q hq, fun i a h q hq => by
    rcases List.mem_cons.mp hq with rfl | hq
    · exact fun e => h4 i (by rw [show p = a from e]; exact h)
    · exact k.nx i a h q hq⟩
theorem Ok.unext {G H : Hp} {σ : St} {c : Addr × HO} (k : Ok (Γ.ext c) G H σ ρ) : Ok Γ G H σ ρ :=
  ⟨k.gh, k.g0, k.nw, k.fr, k.dm, k.res, k.rg, k.len, k.var, k.dj, fun q hq => k.cel q (List.mem_cons_of_mem _ hq), fun i a h q hq => k.nx i a h q (List.mem_cons_of_mem _ hq)⟩
/-- the comprehension's own list among the cells -/
structure Acc (Γ : Ctx) (G0 G H : Hp) (σ : St) (ρ : Env) (p : Addr) (acc : List V) : Prop where
  ok : Ok Γ G H σ ρ
  e : Ex G0 G
  h : H p = some (.lst acc)
  g : G p = none
  f : ¬ Γ.R.F p
  n : ∀ i, ¬ own σ ρ i p
  x : ∀ q ∈ Γ.X, q.1 ≠ p
  z : Γ.H p = none
theorem Ok.touch {G H : Hp} {σ : St} {p : Addr} {o : HO} (k : Ok Γ G H σ ρ) (hg : G p = none) (hf : ¬ Γ.R.F p) (hn : ∀ i, ¬ own σ ρ i p) (hx : ∀ q ∈ Γ.X, q.1 ≠ p) (hz : Γ.H p = none) : Ok Γ G (upd H p o) σ ρ := by
  refine ⟨fun a u h => by rw [upd_ne fun e => by rw [e, hg] at h; cases h]; exact k.gh a u h, k.g0, k.nw, fun a u h1 h2 => by rw [upd_ne fun e => by rw [e, hz] at h2; cases h2]; exact k.fr a u h1 h2, fun a h => by rw [upd_ne fun e => h (by rw [e]; exact hz)]; exact k.dm a h,
    Γ.R.st H _ k.res fun a h => upd_ne fun e => hf (e ▸ h), k.rg, k.len, fun j b h => ?_, k.dj, fun q hq => ?_, k.nx⟩
  · obtain ⟨v, h1, h2⟩ := k.var j b h
    refine ⟨v, h1, ?_⟩
    cases b with
    | fz d => exact h2
    | ow es =>
      obtain ⟨c, ys, rfl, q1, q2, q3, q4, q5⟩ := h2
      have hc : c ≠ p := fun e => hn j (by rw [← e]; exact ⟨h1, es, h⟩)
      exact ⟨c, ys, rfl, by rw [upd_ne hc]; exact q1, q2, q3, q4, q5⟩
  · obtain ⟨h1, h2, h3⟩ := k.cel q hq
    exact ⟨by rw [upd_ne (hx q hq)]; exact h1, h2, h3⟩
theorem Acc.app {G0 G H : Hp} {σ : St} {p : Addr} {acc : List V} (A : Acc Γ G0 G H σ ρ p acc) (y : V) : Acc Γ G0 G (upd H p (.lst (acc ++ [y]))) σ ρ p (acc ++ [y]) :=
  ⟨A.ok.touch A.g A.f A.n A.x A.z, A.e, upd_same, A.g, A.f, A.n, A.x, A.z⟩
theorem Acc.new {G H : Hp} {σ : St} {p : Addr} (k : Ok Γ G H σ ρ) (hp : H p = none) : Acc Γ G G (upd H p (.lst [])) σ ρ p [] := by
  have r := br_new (vs := []) (ds := []) k hp .nil
  obtain ⟨⟨a, xs, e, h1, h2, h3, h4, h5⟩, hn⟩ := r
  cases e
  exact ⟨k.newO hp, Ex.refl G, upd_same, h3, h4, (hn _ rfl p rfl).1, (hn _ rfl p rfl).2, h5⟩
theorem wipe_get {σ : St} {i : Nat} : ∀ {vs : List Nat}, i ∉ vs → (L2.wipe σ vs)[i]? = σ[i]?
  | [], _ => rfl
  | v :: vs, h => by
    show ((L2.wipe σ vs).set v none)[i]? = _
    rw [List.getElem?_set_ne (fun e => h (by rw [e]; exact List.mem_cons_self))]
    exact wipe_get fun q => h (List.mem_cons_of_mem _ q)
theorem wipeE_get {i : Nat} : ∀ {vs : List Nat}, i ∉ vs → (wipeE ρ vs)[i]? = ρ[i]?
  | [], _ => rfl
  | v :: vs, h => by
    show ((wipeE ρ vs).set v none)[i]? = _
    rw [List.getElem?_set_ne (fun e => h (by rw [e]; exact List.mem_cons_self))]
    exact wipeE_get fun q => h (List.mem_cons_of_mem _ q)
theorem wipe_len {σ : St} : ∀ {vs : List Nat}, (L2.wipe σ vs).length = σ.length
  | [] => rfl
  | v :: vs => by
    show ((L2.wipe σ vs).set v none).length = _
    rw [List.length_set]
    exact wipe_len
theorem wipeE_len : ∀ {vs : List Nat}, (wipeE ρ vs).length = ρ.length
  | [] => rfl
  | v :: vs => by
    show ((wipeE ρ vs).set v none).length = _
    rw [List.length_set]
    exact wipeE_len
theorem wipe_in {σ : St} {i : Nat} (hi : i < σ.length) : ∀ {vs : List Nat}, i ∈ vs → (L2.wipe σ vs)[i]? = some none
  | v :: vs, h => by
    show ((L2.wipe σ vs).set v none)[i]? = _
    by_cases e : i = v
    · subst e
      rw [List.getElem?_set_self (by rw [wipe_len]; exact hi)]
    · rw [List.getElem?_set_ne (Ne.symm e)]
      exact wipe_in hi ((List.mem_cons.mp h).resolve_left e)
/-- a target's names are the block's own -/
def GW (g : TG) (vs : List Nat) : Prop := ∀ σ v H (Q : St → Hp → Prop), g v σ H Q → g v σ H fun σ2 H2 => L2.wipe σ2 vs = L2.wipe σ vs ∧ Q σ2 H2
theorem wipe_set {σ : St} {j : Nat} {o : Option V} {vs : List Nat} (hj : j ∈ vs) : L2.wipe (σ.set j o) vs = L2.wipe σ vs := by
  apply List.ext_getElem?
  intro i
  by_cases hi : i ∈ vs
  · by_cases hl : i < σ.length
    · rw [wipe_in (by rw [List.length_set]; exact hl) hi, wipe_in hl hi]
    · rw [List.getElem?_eq_none (by rw [wipe_len, List.length_set]; omega), List.getElem?_eq_none (by rw [wipe_len]; omega)]
  · rw [wipe_get hi, wipe_get hi, List.getElem?_set_ne fun e => hi (by rw [← e]; exact hj)]
theorem wipe_wipe {σ : St} {vs : List Nat} : L2.wipe (L2.wipe σ vs) vs = L2.wipe σ vs := by
  apply List.ext_getElem?
  intro i
  by_cases hi : i ∈ vs
  · by_cases hl : i < σ.length
    · rw [wipe_in (by rw [wipe_len]; exact hl) hi, wipe_in hl hi]
    · rw [List.getElem?_eq_none (by rw [wipe_len, wipe_len]; omega), List.getElem?_eq_none (by rw [wipe_len]; omega)]
  · rw [wipe_get hi]
theorem gw_name {j : Nat} {vs : List Nat} (hj : j ∈ vs) : GW (gName j) vs := fun σ v H Q q => ⟨wipe_set hj, q⟩
theorem gw_gN {vs : List Nat} : ∀ {is : List Nat}, (∀ i ∈ is, i ∈ vs) → ∀ ds σ H (Q : St → Hp → Prop), gN is ds σ H Q → gN is ds σ H fun σ2 H2 => L2.wipe σ2 vs = L2.wipe σ vs ∧ Q σ2 H2
  | [], _, ds, σ, H, Q, ⟨e, q⟩ => ⟨e, rfl, q⟩
  | i :: is, h, ds, σ, H, Q, ⟨v, r, e, q⟩ => ⟨v, r, e, by
      have z := gw_gN (fun j hj => h j (List.mem_cons_of_mem _ hj)) r (σ.set i (some v)) H Q q
      rw [wipe_set (h i List.mem_cons_self)] at z
      exact z⟩
theorem gw_tup {K : PySem.W.Frag} {is : List Nat} {n : Nat} {g : TGs} {vs : List Nat} (hg : g = gN is) (h : ∀ i ∈ is, i ∈ vs) : GW (gTup K n g) vs := fun σ v H Q ⟨a, xs, e1, e2, e3, q⟩ => ⟨a, xs, e1, e2, e3, by
  subst hg
  exact gw_gN h xs σ H Q q⟩
/-- back from a block -/
theorem Ok.back {G G' H H' : Hp} {σ σ2 : St} {ρ2 : Env} {vs : List Nat} (k : Ok Γ G H σ ρ) (k2 : Ok Γ G' H' σ2 ρ2) (e : Ex G G') (h1 : L2.wipe σ2 vs = L2.wipe σ vs) (h2 : wipeE ρ2 vs = wipeE ρ vs) (h3 : ∀ j ∈ vs, ∀ ds, ρ[j]? ≠ some (some (.ow ds))) : Ok Γ G' H' σ ρ := by
  have hs : ∀ i, i ∉ vs → σ2[i]? = σ[i]? := fun i hi => by
    have z : (L2.wipe σ2 vs)[i]? = (L2.wipe σ vs)[i]? := by rw [h1]
    rw [wipe_get hi, wipe_get hi] at z
    exact z
  have hr : ∀ i, i ∉ vs → ρ2[i]? = ρ[i]? := fun i hi => by
    have z : (wipeE ρ2 vs)[i]? = (wipeE ρ vs)[i]? := by rw [h2]
    rw [wipeE_get hi, wipeE_get hi] at z
    exact z
  have back : ∀ i a, own σ ρ i a → own σ2 ρ2 i a := fun i a ⟨p, ds, q⟩ => by
    have hi : i ∉ vs := fun hi => h3 i hi ds q
    exact ⟨by rw [hs i hi]; exact p, ds, by rw [hr i hi]; exact q⟩
  refine ⟨k2.gh, k2.g0, k2.nw, k2.fr, k2.dm, k2.res, k2.rg, k.len, fun i b h => ?_, fun i j a h1 h2 => k2.dj i j a (back i a h1) (back j a h2), k2.cel, fun i a h => k2.nx i a (back i a h)⟩
  by_cases hi : i ∈ vs
  · obtain ⟨v, g1, g2⟩ := k.var i b h
    refine ⟨v, g1, ?_⟩
    cases b with
    | fz d => exact Rep.mono e g2
    | ow ds => exact absurd h (h3 i hi ds)
  · obtain ⟨v, g1, g2⟩ := k2.var i b (by rw [hr i hi]; exact h)
    exact ⟨v, by rw [← hs i hi]; exact g1, g2⟩
/-- one turn of a comprehension -/
def Comp1 (Γ : Ctx) (g : TG) (vs : List Nat) (tt : TT) (te : TE) (ρ : Env) (x : D) (yes : D → Prop) (no : Prop) : Prop :=
  ∃ ρ2, GD Γ g x (wipeE ρ vs) ρ2 ∧ wipeE ρ2 vs = wipeE ρ vs ∧ TW Γ tt ρ2 fun b ρ3 => ρ3 = ρ2 ∧ (b = true → EW Γ te ρ2 fun y ρ4 => ρ4 = ρ2 ∧ yes y) ∧ (b = false → no)
theorem Comp1.run {g : TG} {vs : List Nat} {x : D} {G0 G H : Hp} {σ : St} {p : Addr} {acc : List V} {ds : List D} {v : V} {J : List D → Prop} {Nx : Hp → Prop}
    (c : ∀ c, Comp1 (Γ.ext c) g vs tt te ρ x (fun y => J (ds ++ [y])) (J ds)) (gw : GW g vs) (hv : ∀ j ∈ vs, ∀ ds, ρ[j]? ≠ some (some (.ow ds))) (A : Acc Γ G0 G H σ ρ p acc) (ra : RepL Γ.K G acc ds) (rx : Rep Γ.K G v x) (hl : acc.length < 100000)
    (hN : ∀ H', (∃ G' acc' ds', Acc Γ G0 G' H' σ ρ p acc' ∧ RepL Γ.K G' acc' ds' ∧ J ds' ∧ acc'.length ≤ acc.length + 1) → Nx H') :
    g v (L2.wipe σ vs) H fun σ2 H2 => L2.wipe σ2 vs = L2.wipe σ vs ∧ tt σ2 H2 fun b H3 => if b = true then te σ2 H3 fun y H4 => ∃ acc, H4 p = some (.lst acc) ∧ acc.length < sizeLine ∧ Nx (upd H4 p (.lst (acc ++ [y]))) else Nx H3 := by
  obtain ⟨ρ2, g2, w2, t2⟩ := c (p, .lst acc)
  have kE : Ok (Γ.ext (p, .lst acc)) G H σ ρ := A.ok.ext A.h A.g A.f A.n
  have kW := kE.wipe vs
  have fin : ∀ {G' H' : Hp} {σ2 : St}, L2.wipe σ2 vs = L2.wipe σ vs → Ok (Γ.ext (p, .lst acc)) G' H' σ2 ρ2 → Ex G G' → Acc Γ G0 G' H' σ ρ p acc := fun {G' H' σ2} hw k e => by
    have kb : Ok (Γ.ext (p, .lst acc)) G' H' σ ρ := kE.back k e hw w2 hv
    obtain ⟨c1, c2, c3⟩ := kb.cel _ List.mem_cons_self
    exact ⟨kb.unext, A.e.trans e, c1, c2, c3, A.n, A.x, A.z⟩
  have z := g2 (L2.wipe σ vs) G H v (fun σ2 H2 => L2.wipe σ2 vs = L2.wipe σ vs → tt σ2 H2 fun b H3 => if b = true then te σ2 H3 fun y H4 => ∃ acc, H4 p = some (.lst acc) ∧ acc.length < sizeLine ∧ Nx (upd H4 p (.lst (acc ++ [y]))) else Nx H3) kW rx fun σ2 k2 hw =>
    t2 σ2 G H _ k2 fun b ρ3 G3 H3 e3 k3 ⟨er, py, pn⟩ => by
      subst er
      cases b with
      | true => exact iteT (py rfl σ2 G3 H3 _ k3 fun y ρ4 w G4 H4 e4 k4 r4 ⟨er, j⟩ => by
          subst er
          have A4 := fin hw k4 (e3.trans e4)
          exact ⟨acc, A4.h, Evl.sz_lt hl, hN _ ⟨G4, _, _, A4.app w, (ra.mono (e3.trans e4)).append (.cons r4 .nil), j, by rw [List.length_append]; exact Nat.le_refl _⟩⟩)
      | false => exact iteF (hN _ ⟨G3, _, _, fin hw k3 e3, ra.mono e3, pn rfl, Nat.le_succ _⟩)
  have z2 := gw _ _ _ _ z
  refine cast ?_ z2
  congr 1
  funext σ2 H2
  rw [wipe_wipe]
  exact propext ⟨fun h => ⟨h.1, h.2 h.1⟩, fun h => ⟨h.1, fun _ => h.2⟩⟩
/-- what a comprehension over a sequence asks -/
def Comp (Γ : Ctx) (g : TG) (vs : List Nat) (tt : TT) (te : TE) (ds : List D) (ρ1 : Env) (Ψ : B → Env → Prop) : Prop := GW g vs ∧ (∀ j ∈ vs, ∀ es, ρ1[j]? ≠ some (some (.ow es))) ∧ ds.length ≤ 99999 ∧
  ∃ J : Nat → List D → Prop, J 0 [] ∧ (∀ i x acc c, ds[i]? = some x → J i acc → Comp1 (Γ.ext c) g vs tt te ρ1 x (fun y => J (i + 1) (acc ++ [y])) (J (i + 1) acc)) ∧ ∀ acc, J ds.length acc → Ψ (.ow (.lst acc)) ρ1
theorem acc_br {G0 G H : Hp} {σ : St} {p : Addr} {acc : List V} {ds : List D} (A : Acc Γ G0 G H σ ρ p acc) (r : RepL Γ.K G acc ds) : BR Γ G H σ ρ (.ref p) (.ow (.lst ds)) :=
  ⟨⟨p, .lst acc, rfl, A.h, .lst r, A.g, A.f, A.z⟩, fun es _ a e => by
    cases e
    exact ⟨A.n, A.x⟩⟩
theorem eb_lcT {K : PySem.W.Frag} {g : TG} {vs : List Nat} {te0 : TE} (hK : K = Γ.K) (h : EW Γ te0 ρ fun d ρ1 => ∃ ds, d = .tup ds ∧ Comp Γ g vs tt te ds ρ1 Ψ) : EB Γ (tLc (iTup K te0) g tt te vs) ρ Ψ := fun σ G H Q k q =>
  h σ G H _ k fun d ρ1 v G1 H1 e1 k1 r1 ⟨ds, e, gw, hv, hl, J, j0, js, jd⟩ => by
    subst e
    subst hK
    cases r1 with
    | @tup a xs _ hq hs =>
      exact ⟨a, rfl, ⟨xs, sq_up k1.gh hq⟩, fun p hp => lc_tup (xs := xs) (fun i H => ∃ G acc ds, Acc Γ G1 G H σ ρ1 p acc ∧ RepL Γ.K G acc ds ∧ J i ds ∧ acc.length ≤ i) ⟨G1, [], [], Acc.new k1 hp, .nil, j0, Nat.le_refl _⟩ (fun i H _ ⟨G2, acc, es, A, _⟩ => sq_up (A.e.trans A.ok.gh) hq)
        (fun i x H hi ⟨G2, acc, es, A, ra, j, la⟩ => by
          obtain ⟨y, hy, ry⟩ := hs.get hi
          have hlt : i < ds.length := (List.getElem?_eq_some_iff.mp hy).1
          exact Comp1.run (fun c => js i y es c hy j) gw hv A ra (ry.mono A.e) (by omega) fun H' ⟨G', acc', ds', A', r', j', l'⟩ => ⟨G', acc', ds', A', r', j', by omega⟩)
        (fun H ⟨G2, acc, es, A, ra, j, la⟩ => q _ ρ1 _ G2 H (e1.trans A.e) A.ok (acc_br A ra) (jd es (by rw [← hs.length]; exact j)))⟩
theorem eb_lcL {K : PySem.W.Frag} {g : TG} {vs : List Nat} {te0 : TE} (hK : K = Γ.K) (h : EW Γ te0 ρ fun d ρ1 => ∃ ds, d = .lst ds ∧ Comp Γ g vs tt te ds ρ1 Ψ) : EB Γ (tLc (iList K te0) g tt te vs) ρ Ψ := fun σ G H Q k q =>
  h σ G H _ k fun d ρ1 v G1 H1 e1 k1 r1 ⟨ds, e, gw, hv, hl, J, j0, js, jd⟩ => by
    subst e
    subst hK
    cases r1 with
    | @lst a xs _ hq hs =>
      exact ⟨a, rfl, ⟨xs, Evl.ex_l k1.gh hq⟩, fun p hp => lc_list (xs := xs) (fun i H => ∃ G acc ds, Acc Γ G1 G H σ ρ1 p acc ∧ RepL Γ.K G acc ds ∧ J i ds ∧ acc.length ≤ i) ⟨G1, [], [], Acc.new k1 hp, .nil, j0, Nat.le_refl _⟩ (fun i H _ ⟨G2, acc, es, A, _⟩ => Evl.ex_l (A.e.trans A.ok.gh) hq)
        (fun i x H hi ⟨G2, acc, es, A, ra, j, la⟩ => by
          obtain ⟨y, hy, ry⟩ := hs.get hi
          have hlt : i < ds.length := (List.getElem?_eq_some_iff.mp hy).1
          exact Comp1.run (fun c => js i y es c hy j) gw hv A ra (ry.mono A.e) (by omega) fun H' ⟨G', acc', ds', A', r', j', l'⟩ => ⟨G', acc', ds', A', r', j', by omega⟩)
        (fun H ⟨G2, acc, es, A, ra, j, la⟩ => q _ ρ1 _ G2 H (e1.trans A.e) A.ok (acc_br A ra) (jd es (by rw [← hs.length]; exact j)))⟩
def rngD (n : Nat) : List D := (List.range n).map fun (i : Nat) => D.int (i : Int)
theorem rngD_get {n i : Nat} (h : i < n) : (rngD n)[i]? = some (.int (i : Int)) := by
  unfold rngD
  rw [List.getElem?_map, List.getElem?_range h]
  rfl
theorem rngD_len {n : Nat} : (rngD n).length = n := by
  unfold rngD
  rw [List.length_map, List.length_range]
theorem eb_lcR {g : TG} {vs : List Nat} {ta : TA} (h : AW Γ ta ρ fun ds ρ1 => ∃ n : Int, ds = [.int n] ∧ -100 ≤ n ∧ Comp Γ g vs tt te (rngD n.toNat) ρ1 Ψ) : EB Γ (tLc (iRng1 ta) g tt te vs) ρ Ψ := fun σ G H Q k q =>
  h σ G H _ k fun d ρ1 v G1 H1 e1 k1 r1 ⟨n, e, bn, gw, hv, hl, J, j0, js, jd⟩ => by
    subst e
    rw [rngD_len] at hl jd
    cases r1 with
    | cons r r' => cases r' with
      | nil =>
        cases r
        exact ⟨n, rfl, by omega, by omega, fun p hp => lc_range (lo := 0) (n := n.toNat) (fun i H => ∃ G acc ds, Acc Γ G1 G H σ ρ1 p acc ∧ RepL Γ.K G acc ds ∧ J i ds ∧ acc.length ≤ i) ⟨G1, [], [], Acc.new k1 hp, .nil, j0, Nat.le_refl _⟩
          (fun i H hi ⟨G2, acc, es, A, ra, j, la⟩ => by
            rw [Int.zero_add]
            exact Comp1.run (fun c => js i _ es c (rngD_get hi) j) gw hv A ra (.int _) (by omega) fun H' ⟨G', acc', ds', A', r', j', l'⟩ => ⟨G', acc', ds', A', r', j', by omega⟩)
          (fun H ⟨G2, acc, es, A, ra, j, la⟩ => q _ ρ1 _ G2 H (e1.trans A.e) A.ok (acc_br A ra) (jd es j))⟩
theorem tw_yes (p : Θ true ρ) : TW Γ tYes ρ Θ := fun σ G H Q k q => q true ρ G H (Ex.refl G) k p

/-! ### built-ins by values -/
/-- a call of a built-in that makes nothing -/
def CbV (Γ : Ctx) (r : List V → Hp → VK → Prop) (ds : List D) (z : D) : Prop := ∀ G H vs (Q : VK), Ex G H → RepL Γ.K G vs ds → (∀ v, Rep Γ.K G v z → Q v H) → r vs H Q
theorem ew_cb {r : List V → Hp → VK → Prop} {ts : TA} (h : AW Γ ts ρ fun ds ρ1 => ∃ z, CbV Γ r ds z ∧ Φ z ρ1) : EW Γ (tCB r ts) ρ Φ := fun σ G H Q k q =>
  h σ G H _ k fun ds ρ1 vs G1 H1 e1 k1 r1 ⟨z, hz, p⟩ => hz G1 H1 vs Q k1.gh r1 fun v rv => q z ρ1 v G1 H1 e1 k1 rv p
theorem cbv_abs {i : Int} : CbV Γ (fun xs H Q => ∃ i, xs = [.int i] ∧ Q (.int (if i < 0 then -i else i)) H) [.int i] (.int (if i < 0 then -i else i)) := fun G H vs Q e r q => by
  cases r with
  | cons r r' => cases r' with
    | nil => cases r; exact ⟨i, rfl, q _ (.int _)⟩
theorem cbv_int {i : Int} : CbV Γ (fun xs H Q => (∃ i, xs = [.int i] ∧ Q (.int i) H) ∨ ∃ k, xs = [.bl k] ∧ Q (.int (if k then 1 else 0)) H) [.int i] (.int i) := fun G H vs Q e r q => by
  cases r with
  | cons r r' => cases r' with
    | nil => cases r; exact .inl ⟨i, rfl, q _ (.int _)⟩
theorem cbv_int2 {f : Int → Int → Int} {i j : Int} : CbV Γ (fun xs H Q => ∃ i j, xs = [.int i, .int j] ∧ Q (.int (f i j)) H) [.int i, .int j] (.int (f i j)) := fun G H vs Q e r q => by
  cases r with
  | cons r r' => cases r' with
    | cons r2 r' => cases r' with
      | nil => cases r; cases r2; exact ⟨i, j, rfl, q _ (.int _)⟩
theorem cbv_strI {i : Int} (h : i.natAbs.log2 < 1920) : CbV Γ (fun xs H Q => ∃ i, xs = [.int i] ∧ i.natAbs.log2 < 1920 ∧ Q (.str (toString i)) H) [.int i] (.str (toString i)) := fun G H vs Q e r q => by
  cases r with
  | cons r r' => cases r' with
    | nil => cases r; exact ⟨i, rfl, h, q _ (.str _)⟩
theorem seq_of {K : PySem.W.Frag} {G H : Hp} {a : Addr} {xs : List V} (e : Ex G H) (h : SqL K G a xs) : SqL K H a xs := Evl.ex_l e h
theorem cbv_lenT {K : PySem.W.Frag} {ds : List D} (hK : K = Γ.K) : CbV Γ (fun xs H Q => ∃ p ys, xs = [.ref p] ∧ (SqL K H p ys ∨ SqT K H p ys) ∧ Q (.int ys.length) H) [.tup ds] (.int ds.length) := fun G H vs Q e r q => by
  subst hK
  cases r with
  | cons r r' => cases r' with
    | nil => cases r with
      | @tup a xs _ h hs => exact ⟨a, xs, rfl, .inr (sq_up e h), q _ (by rw [hs.length]; exact .int _)⟩
theorem cbv_lenL {K : PySem.W.Frag} {ds : List D} (hK : K = Γ.K) : CbV Γ (fun xs H Q => ∃ p ys, xs = [.ref p] ∧ (SqL K H p ys ∨ SqT K H p ys) ∧ Q (.int ys.length) H) [.lst ds] (.int ds.length) := fun G H vs Q e r q => by
  subst hK
  cases r with
  | cons r r' => cases r' with
    | nil => cases r with
      | @lst a xs _ h hs => exact ⟨a, xs, rfl, .inl (seq_of e h), q _ (by rw [hs.length]; exact .int _)⟩
theorem cbv_all {K : PySem.W.Frag} {bs : List Bool} (hK : K = Γ.K) : CbV Γ (rAll K) [.lst (bs.map D.bl)] (.bl (bs.all id)) := fun G H vs Q e r q => by
  subst hK
  cases r with
  | cons r r' => cases r' with
    | nil => cases r with
      | @lst a xs _ h hs => exact ⟨a, bs, rfl, by rw [← hs.bls]; exact seq_of e h, q _ (.bl _)⟩
theorem cbv_any {K : PySem.W.Frag} {bs : List Bool} (hK : K = Γ.K) : CbV Γ (rAny K) [.lst (bs.map D.bl)] (.bl (bs.any id)) := fun G H vs Q e r q => by
  subst hK
  cases r with
  | cons r r' => cases r' with
    | nil => cases r with
      | @lst a xs _ h hs => exact ⟨a, bs, rfl, by rw [← hs.bls]; exact seq_of e h, q _ (.bl _)⟩
theorem cbv_sum {K : PySem.W.Frag} {ns : List Int} (hK : K = Γ.K) : CbV Γ (rSum K) [.lst (ns.map D.int)] (.int ns.sum) := fun G H vs Q e r q => by
  subst hK
  cases r with
  | cons r r' => cases r' with
    | nil => cases r with
      | @lst a xs _ h hs => exact ⟨a, ns, rfl, by rw [← hs.ints]; exact seq_of e h, q _ (.int _)⟩
/-! isinstance -/
def tyN : D → Option String
  | .non => some "NoneType"
  | .bl _ => some "bool"
  | .int _ => some "int"
  | .str _ => some "str"
  | .tup _ => some "tuple"
  | .lst _ => some "list"
  | _ => none
theorem tyX_of {K : PySem.W.Frag} {G H : Hp} {v : V} {d : D} {t : String} (e : Ex G H) (r : Rep K G v d) (h : tyN d = some t) : TyX K H v (.type t) := by
  cases r with
  | non => cases h; exact .base .non
  | bl b => cases h; exact .base (.bl b)
  | int i => cases h; exact .base (.int i)
  | str x => cases h; exact .base (.str x)
  | tup hq _ =>
    cases h
    rcases hq with hq | ⟨o, its, n, h1, h2, _⟩
    · rcases hq with hq | ⟨o, hq⟩
      · exact .base (.tup (e _ _ hq))
      · exact .fTuple (e _ _ hq)
    · exact .kTuple h1 h2
  | lst hq _ =>
    cases h
    rcases hq with hq | ⟨o, its, n, h1, h2, _⟩
    · rcases hq with hq | ⟨o, hq⟩
      · exact .base (.lst (e _ _ hq))
      · exact .base (.frz (e _ _ hq))
    · exact .kList h1 h2
  | obj _ _ => cases h
  | ptr a => cases h
  | err _ _ => cases h
  | dct _ _ => cases h
/-- isinstance(e, T) -/
theorem ew_isi {K : PySem.W.Frag} {n : String} (hK : K = Γ.K) (h : EW Γ te ρ fun d ρ1 => ∃ t b, tyN d = some t ∧ kitB t n = some b ∧ Φ (.bl b) ρ1) : EW Γ (tCB (rIsi K) (tCons te (tCons (tC (.ty n)) tNil))) ρ Φ := fun σ G H Q k q =>
  h σ G H _ k fun d ρ1 v G1 H1 e1 k1 r1 ⟨t, b, ht, hb, p⟩ => by
    subst hK
    exact ⟨v, .ty n, .type t, .type n, b, rfl, .ty n, tyX_of k1.gh r1 ht, kit_ty hb, q _ ρ1 _ G1 H1 e1 k1 (.bl _) p⟩
/-- of an object of an own class: by kitOne -/
structure ObjTy (K : PySem.W.Frag) (C : Addr) : Prop where
  cl : Cls K C
  ha : PySem.W.findIn K (.ref C) "__class__" = some (some (.builtin "object.__class__"))
  hn : PySem.W.specialIn K (.builtin "object.__class__") "__get__" = some (some (.builtin "getset_descriptor.__get__"))
  htk : PySem.W.takesIn K (.builtin "object.__class__") = some true
  hm : PySem.W.mroIn K C (.type "object") = some true
theorem ew_isiO {K : PySem.W.Frag} {n : String} (hK : K = Γ.K) (h : EW Γ te ρ fun d ρ1 => ∃ C fs b, d = .obj C fs ∧ ObjTy K C ∧ PySem.W.kitOne K (.ref C) (.type n) = some b ∧ Φ (.bl b) ρ1) : EW Γ (tCB (rIsi K) (tCons te (tCons (tC (.ty n)) tNil))) ρ Φ := fun σ G H Q k q =>
  h σ G H _ k fun d ρ1 v G1 H1 e1 k1 r1 ⟨C, fs, b, hd, T, hb, p⟩ => by
    subst hK
    subst hd
    cases r1 with
    | obj hq hs => exact ⟨_, .ty n, .ref C, .type n, b, rfl, .ty n, .base (.ins (k1.gh _ _ hq) T.cl T.ha T.hn T.htk T.hm), hb, q _ ρ1 _ G1 H1 e1 k1 (.bl _) p⟩
/-- isinstance(e, (T, U)) -/
theorem ew_isi2 {K : PySem.W.Frag} {n m : String} (hK : K = Γ.K) (h : EW Γ te ρ fun d ρ1 => ∃ t b c, tyN d = some t ∧ kitB t n = some b ∧ kitB t m = some c ∧ Φ (.bl (b || c)) ρ1) : EW Γ (tCB (rIsiT K) (tCons te (tCons (tTup (tCons (tC (.ty n)) (tCons (tC (.ty m)) tNil))) tNil))) ρ Φ := fun σ G H Q k q =>
  h σ G H _ k fun d ρ1 v G1 H1 e1 k1 r1 ⟨t, b, c, ht, hb, hc, p⟩ => by
    subst hK
    refine ⟨by show 2 ≤ sizeLine; decide, fun a ha => ?_⟩
    obtain ⟨k2, e2⟩ := k1.new (o := .tup [.ty n, .ty m]) ha
    refine ⟨v, a, [.ty n, .ty m], .type t, [.type n, .type m], b || c, rfl, upd_same, .cons (.ty n) (.cons (.ty m) .nil), tyX_of k2.gh (r1.mono e2) ht, ?_, q _ ρ1 _ _ _ (e1.trans e2) k2 (.bl _) p⟩
    refine kitAny_cons (kit_ty hb) (fun z => ?_) (fun z => by rw [z]; rfl)
    subst z
    exact kitAny_cons (kit_ty hc) (fun z => by rw [z]; exact kitAny_nil) (fun z => by rw [z]; rfl)
/-! subscripts -/
theorem opv_ixT {K : PySem.W.Frag} {ds : List D} {i : Int} {x : D} (hK : K = Γ.K) (h : atI ds i = some x) : OpV Γ (rIxT K) (.tup ds) (.int i) x := fun G H vx vy Q e hx hy q => by
  subst hK
  cases hy
  cases hx with
  | @tup a xs _ hq hs =>
    unfold atI at h
    cases hj : ixN ds.length i with
    | none =>
      rw [hj] at h
      cases h
    | some j =>
      rw [hj] at h
      obtain ⟨v, hv, rv⟩ := hs.getD (i := j) (d := x) h
      exact ⟨a, xs, i, v, rfl, rfl, sq_up e hq, by unfold atI; rw [hs.length, hj]; exact hv, q v rv⟩
theorem opv_ixL {K : PySem.W.Frag} {ds : List D} {i : Int} {x : D} (hK : K = Γ.K) (h : atI ds i = some x) : OpV Γ (rIxL K) (.lst ds) (.int i) x := fun G H vx vy Q e hx hy q => by
  subst hK
  cases hy
  cases hx with
  | @lst a xs _ hq hs =>
    unfold atI at h
    cases hj : ixN ds.length i with
    | none =>
      rw [hj] at h
      cases h
    | some j =>
      rw [hj] at h
      obtain ⟨v, hv, rv⟩ := hs.getD (i := j) (d := x) h
      exact ⟨a, xs, i, v, rfl, rfl, seq_of e hq, by unfold atI; rw [hs.length, hj]; exact hv, q v rv⟩
theorem at_nat {ds : List D} {j : Nat} {x : D} (h : ds[j]? = some x) : atI ds (j : Int) = some x := atI_nat h
/-- xs[e], xs a slot's own list -/
theorem ew_ixO {K : PySem.W.Frag} {l : Nat} {ds0 : List D} (hK : K = Γ.K) (h0 : ρ[l]? = some (some (.ow (.lst ds0)))) (h : EW Γ te ρ fun d ρ1 => ∃ i ds x, d = .int i ∧ ρ1[l]? = some (some (.ow (.lst ds))) ∧ atI ds i = some x ∧ Φ x ρ1) : EW Γ (tOp (rIxL K) (tVar l) te) ρ Φ := fun σ G H Q k q => by
  subst hK
  obtain ⟨v0, g0, _⟩ := k.var l _ h0
  refine ⟨v0, g0, ?_⟩
  refine h σ G H _ k fun d ρ1 v G1 H1 e1 k1 r1 ⟨i, ds, x, hd, hl, ha, p⟩ => ?_
  subst hd
  cases r1
  obtain ⟨a, xs, h1, g1, g2⟩ := k1.lst hl
  rw [g0] at h1
  cases h1
  unfold atI at ha
  cases hj : ixN ds.length i with
  | none =>
    rw [hj] at ha
    cases ha
  | some j =>
    rw [hj] at ha
    obtain ⟨v, hv, rv⟩ := g2.getD (i := j) (d := x) ha
    exact ⟨a, xs, i, v, rfl, rfl, SqL.of g1, by unfold atI; rw [g2.length, hj]; exact hv, q x ρ1 v G1 H1 e1 k1 rv p⟩
/-! a slot's own list -/
theorem ew_lenO {K : PySem.W.Frag} {l : Nat} {ds : List D} (hK : K = Γ.K) (h : ρ[l]? = some (some (.ow (.lst ds)))) (p : Φ (.int ds.length) ρ) : EW Γ (tCB (fun xs H Q => ∃ p ys, xs = [.ref p] ∧ (SqL K H p ys ∨ SqT K H p ys) ∧ Q (.int ys.length) H) (tCons (tVar l) tNil)) ρ Φ := fun σ G H Q k q => by
  subst hK
  obtain ⟨a, xs, h1, g1, g2⟩ := k.lst h
  exact ⟨_, h1, a, xs, rfl, .inl (SqL.of g1), by rw [g2.length]; exact q _ ρ _ G H (Ex.refl G) k (.int _) p⟩
/-- x.append(e) -/
theorem sw_app {K : PySem.W.Frag} {l : Nat} {ds0 : List D} (h0 : ρ[l]? = some (some (.ow (.lst ds0)))) (h : EW Γ te ρ fun d ρ1 => ∃ ds, ρ1[l]? = some (some (.ow (.lst ds))) ∧ ds.length < 100000 ∧ Δ.nx (ρ1.set l (some (.ow (.lst (ds ++ [d])))))) : SW Γ (tDrop (tBM K "list" rAppend (tVar l) (tCons te tNil))) ρ Δ := fun σ G H D k hn hr hb hc => by
  obtain ⟨a, xs, g0, g1, _⟩ := k.lst h0
  refine ⟨_, g0, .inl ⟨rfl, _, SqL.of g1⟩, ?_⟩
  refine h σ G H _ k fun d ρ1 v G1 H1 e1 k1 r1 ⟨ds, hl, hz, p⟩ => ?_
  obtain ⟨a', xs', h1, q1, q2⟩ := k1.lst hl
  rw [g0] at h1
  cases h1
  exact ⟨a, xs', v, rfl, rfl, q1, by rw [q2.length]; exact Evl.sz_lt hz, hn _ σ G1 _ e1 (k1.mut hl g0 (.lst (q2.append (.cons r1 .nil)))) p⟩
/-- x[i] = e -/
theorem sw_setO {l : Nat} {ti : TE} {ds0 : List D} (h0 : ρ[l]? = some (some (.ow (.lst ds0)))) (h : EW Γ te ρ fun d ρ1 => EW Γ ti ρ1 fun i ρ2 => ∃ n j ds, i = .int n ∧ ρ1[l]? = some (some (.ow (.lst ds0))) ∧ ρ2[l]? = some (some (.ow (.lst ds))) ∧ ixN ds.length n = some j ∧ Δ.nx (ρ2.set l (some (.ow (.lst (ds.set j d)))))) : SW Γ (tAsg te (gSub (tVar l) ti rSetL)) ρ Δ := fun σ G H D k hn hr hb hc => by
  obtain ⟨a, xs, g0, g1, _⟩ := k.lst h0
  refine h σ G H _ k fun d ρ1 v G1 H1 e1 k1 r1 h1 => ?_
  refine ⟨_, g0, ?_⟩
  refine h1 σ G1 H1 _ k1 fun i ρ2 vi G2 H2 e2 k2 r2 ⟨n, j, ds, hi, _, hl, hj, p⟩ => ?_
  subst hi
  cases r2
  obtain ⟨a', xs', h1, q1, q2⟩ := k2.lst hl
  rw [g0] at h1
  cases h1
  exact ⟨a, xs', n, j, rfl, rfl, q1, by rw [q2.length]; exact hj, hn _ σ G2 _ (e1.trans e2) (k2.mut hl g0 (.lst (RepL.set (r1.mono e2) j q2))) p⟩
theorem sw_aug {i : Nat} {f : Int → Int → Int} (h : ∃ a, ρ[i]? = some (some (.fz (.int a))) ∧ EW Γ te ρ fun d ρ1 => ∃ b, d = .int b ∧ Δ.nx (ρ1.set i (some (.fz (.int (f a b)))))) : SW Γ (tAug i te (ipI f)) ρ Δ := fun σ G H D k hn hr hb hc => by
  obtain ⟨a, ha, h⟩ := h
  obtain ⟨v0, g0, r0⟩ := k.var i _ ha
  refine ⟨v0, g0, ?_⟩
  have r0' : Rep Γ.K G v0 (.int a) := r0
  cases r0'
  refine h σ G H _ k fun d ρ1 v G1 H1 e1 k1 r1 ⟨b, hd, p⟩ => ?_
  subst hd
  cases r1
  exact ⟨a, b, rfl, rfl, hn _ _ G1 H1 e1 (k1.store (.fz (Rep.int _))) p⟩

/-! new objects of built-ins -/
/-- tuple(e), e a list that never changes any more -/
theorem ew_tupL {K : PySem.W.Frag} (hK : K = Γ.K) (h : EW Γ te ρ fun d ρ1 => ∃ ds, d = .lst ds ∧ Φ (.tup ds) ρ1) : EW Γ (tCB (fun xs H Q => ∃ p ys, xs = [.ref p] ∧ ((SqL K H p ys ∧ ∀ l, H l = none → Q (.ref l) (upd H l (.tup ys))) ∨ (SqT K H p ys ∧ Q (.ref p) H))) (tCons te tNil)) ρ Φ := fun σ G H Q k q =>
  h σ G H _ k fun d ρ1 v G1 H1 e1 k1 r1 ⟨ds, e, p⟩ => by
    subst hK
    subst e
    cases r1 with
    | @lst a xs _ hq hs =>
      refine ⟨a, xs, rfl, .inl ⟨seq_of k1.gh hq, fun l hl => ?_⟩⟩
      obtain ⟨k2, e2⟩ := k1.new (o := .tup xs) hl
      exact q _ ρ1 _ _ _ (e1.trans e2) k2 (.tup (SqT.of upd_same) (hs.mono e2)) p
theorem ew_tupT {K : PySem.W.Frag} (hK : K = Γ.K) (h : EW Γ te ρ fun d ρ1 => ∃ ds, d = .tup ds ∧ Φ (.tup ds) ρ1) : EW Γ (tCB (fun xs H Q => ∃ p ys, xs = [.ref p] ∧ ((SqL K H p ys ∧ ∀ l, H l = none → Q (.ref l) (upd H l (.tup ys))) ∨ (SqT K H p ys ∧ Q (.ref p) H))) (tCons te tNil)) ρ Φ := fun σ G H Q k q =>
  h σ G H _ k fun d ρ1 v G1 H1 e1 k1 r1 ⟨ds, e, p⟩ => by
    subst hK
    subst e
    cases r1 with
    | @tup a xs _ hq hs => exact ⟨a, xs, rfl, .inr ⟨sq_up k1.gh hq, q _ ρ1 _ _ _ e1 k1 (.tup hq hs) p⟩⟩
/-- tuple(x), x a slot's own list -/
theorem ew_tupO {K : PySem.W.Frag} {l : Nat} {ds : List D} (hK : K = Γ.K) (h : ρ[l]? = some (some (.ow (.lst ds)))) (p : Φ (.tup ds) ρ) : EW Γ (tCB (fun xs H Q => ∃ p ys, xs = [.ref p] ∧ ((SqL K H p ys ∧ ∀ l, H l = none → Q (.ref l) (upd H l (.tup ys))) ∨ (SqT K H p ys ∧ Q (.ref p) H))) (tCons (tVar l) tNil)) ρ Φ := fun σ G H Q k q => by
  subst hK
  obtain ⟨a, xs, h1, g1, g2⟩ := k.lst h
  refine ⟨_, h1, a, xs, rfl, .inl ⟨SqL.of g1, fun m hm => ?_⟩⟩
  obtain ⟨k2, e2⟩ := k.new (o := .tup xs) hm
  exact q _ ρ _ _ _ e2 k2 (.tup (SqT.of upd_same) (g2.mono e2)) p
/-- list(e) -/
theorem eb_listL {K : PySem.W.Frag} (hK : K = Γ.K) (h : EW Γ te ρ fun d ρ1 => ∃ ds, (d = .lst ds ∨ d = .tup ds) ∧ Ψ (.ow (.lst ds)) ρ1) : EB Γ (tCB (fun xs H Q => ∃ p ys, xs = [.ref p] ∧ (SqL K H p ys ∨ SqT K H p ys) ∧ ∀ l, H l = none → Q (.ref l) (upd H l (.lst ys))) (tCons te tNil)) ρ Ψ := fun σ G H Q k q =>
  h σ G H _ k fun d ρ1 v G1 H1 e1 k1 r1 ⟨ds, e, p⟩ => by
    subst hK
    rcases e with e | e
    · subst e
      cases r1 with
      | @lst a xs _ hq hs => exact ⟨a, xs, rfl, .inl (seq_of k1.gh hq), fun l hl => q _ ρ1 _ _ _ e1 (k1.newO hl) (br_new k1 hl hs) p⟩
    · subst e
      cases r1 with
      | @tup a xs _ hq hs => exact ⟨a, xs, rfl, .inr (sq_up k1.gh hq), fun l hl => q _ ρ1 _ _ _ e1 (k1.newO hl) (br_new k1 hl hs) p⟩
theorem eb_listO {K : PySem.W.Frag} {l : Nat} {ds : List D} (hK : K = Γ.K) (h : ρ[l]? = some (some (.ow (.lst ds)))) (p : Ψ (.ow (.lst ds)) ρ) : EB Γ (tCB (fun xs H Q => ∃ p ys, xs = [.ref p] ∧ (SqL K H p ys ∨ SqT K H p ys) ∧ ∀ l, H l = none → Q (.ref l) (upd H l (.lst ys))) (tCons (tVar l) tNil)) ρ Ψ := fun σ G H Q k q => by
  subst hK
  obtain ⟨a, xs, h1, g1, g2⟩ := k.lst h
  exact ⟨_, h1, a, xs, rfl, .inl (SqL.of g1), fun m hm => q _ ρ _ _ _ (Ex.refl G) (k.newO hm) (br_new k hm g2) p⟩

/-- xs + e, xs a slot's own list, e a new list -/
theorem eb_catO {l : Nat} {ds : List D} (h0 : ρ[l]? = some (some (.ow (.lst ds)))) (h : EB Γ tb ρ fun b ρ1 => ∃ es, b = .ow (.lst es) ∧ ρ1[l]? = some (some (.ow (.lst ds))) ∧ ds.length + es.length ≤ 100000 ∧ Ψ (.ow (.lst (ds ++ es))) ρ1) : EB Γ (tOp rCat (tVar l) tb) ρ Ψ := fun σ G H Q k q => by
  obtain ⟨v0, g0, _⟩ := k.var l _ h0
  refine ⟨v0, g0, ?_⟩
  refine h σ G H _ k fun b ρ1 v G1 H1 e1 k1 r1 ⟨es, hb, hl, hz, p⟩ => ?_
  subst hb
  obtain ⟨⟨c, o, rfl, f1, f2, _⟩, _⟩ := r1
  cases f2 with
  | @lst ys _ f2 =>
    obtain ⟨a, xs, h1, g1, g2⟩ := k1.lst hl
    rw [g0] at h1
    cases h1
    exact ⟨a, c, xs, ys, rfl, rfl, g1, f1, Evl.sz_of (by rw [g2.length, f2.length]; exact hz), fun m hm => q _ ρ1 _ _ _ e1 (k1.newO hm) (br_new k1 hm (g2.append f2)) p⟩
/-! ### exceptions -/
/-- what the one-field __init__ of an error's class does -/
def spInit (K : PySem.W.Frag) (C : Addr) (f : Str) : Sp := fun vs H Q _ => ∃ (a : Addr) (v : V), vs = [.ref a, v] ∧ H a = some (exo a C none) ∧ ∀ dx, H dx = none → dx ≠ a → Q .non (upd (upd H dx (exd dx [(f, v)])) a (exo a C (some dx)))
theorem body_init {K : PySem.W.Frag} {C : Addr} {f : Str} (T : OexC K C) (hno : PySem.W.findIn K (.ref C) f = some none) {vs : List V} {H : Hp} {Q : VK} {E : XK} {N : List Str} (hN : N.length = 2) (h : spInit K C f vs H Q E) : tOst K f (tVar 0) (tVar 1) { nx := fun _ H' => Q .non H', rt := Q } (L2.start N vs) H := by
  obtain ⟨a, v, rfl, ha, k⟩ := h
  match N, hN with
  | [_, _], _ => exact ⟨_, rfl, _, rfl, a, C, rfl, T, hno, .inl ⟨ha, k⟩⟩
theorem xc_of {G H H' : Hp} {σ : St} {dd : Addr} {f : Str} {v : V} (k : Ok Γ G H σ ρ) (h0 : H dd = none) (h : H' dd = some (.xd [(f, v)])) : XC Γ H' dd f v :=
  ⟨h, fun z => Γ.R.dom H dd k.res z h0, fun p hp e => (by
    obtain ⟨e1, _⟩ := k.cel p hp
    rw [e, h0] at e1
    cases e1), by
    cases e : Γ.H dd with
    | none => rfl
    | some u => exact absurd h0 (k.dm dd (by rw [e]; simp))⟩
/-- raise C(e) -/
theorem sw_raise {K : PySem.W.Frag} {C : Addr} {f : Str} {ts : TA} {W : WX} (hW : ∀ ρ1 d v dd σ' G' H', Ok Γ G' H' σ' ρ1 → XC Γ H' dd f v → Rep Γ.K G' v d → Δ.xr ρ1 C f d → W (.ref C) (some dd) σ' H') (h : AW Γ ts ρ fun ds ρ1 => ∃ d, ds = [d] ∧ Δ.xr ρ1 C f d) :
    SW Γ (fun _ σ H => tMkO C (spInit K C f) [] ts σ H fun cls d H' => W cls d σ H') ρ Δ := fun σ G H D k hn hr hb hc =>
  h σ G H _ k fun ds ρ1 vs G1 H1 e1 k1 r1 ⟨d, e, p⟩ => by
    subst e
    cases r1 with
    | @cons v _ _ _ rv r' =>
      cases r'
      refine ⟨by show 1 ≤ 1000; decide, fun a ha => ⟨a, _, rfl, upd_same, fun dx hdx hne => ?_⟩⟩
      have hd : H1 dx = none := by rw [upd_ne hne] at hdx; exact hdx
      refine ⟨rfl, dx, [(f, v)], upd_same, by rw [upd_ne hne]; exact upd_same, hd, ?_⟩
      have eH : upd (L2.del (upd (upd (upd H1 a (exo a C none)) dx (exd dx [(f, v)])) a (exo a C (some dx))) a) dx (.xd [(f, v)]) = upd H1 dx (.xd [(f, v)]) := by
        funext b
        by_cases e1 : b = dx
        · rw [e1, upd_same, upd_same]
        · rw [upd_ne e1, upd_ne e1]
          by_cases e2 : b = a
          · rw [e2, del_same, ha]
          · rw [del_ne e2, upd_ne e2, upd_ne e1, upd_ne e2]
      rw [eH]
      exact hW ρ1 d v dx σ G1 _ (k1.newO hd) (xc_of k1 hd upd_same) rv p
/-- .. out of the def -/
theorem sw_raiseE {K : PySem.W.Frag} {C : Addr} {f : Str} {ts : TA} {E : XK} {Ξ : Addr → Str → D → Prop} (ke : KE Γ Ξ E) (hx : ∀ ρ1 C f d, Δ.xr ρ1 C f d → Ξ C f d) (h : AW Γ ts ρ fun ds ρ1 => ∃ d, ds = [d] ∧ Δ.xr ρ1 C f d) :
    SW Γ (fun _ σ H => tMkO C (spInit K C f) [] ts σ H fun cls d H' => (fun (cls : Value) (d : Option Addr) (_ : St) (H : Hp) => E cls d H) cls d σ H') ρ Δ :=
  sw_raise (fun ρ1 d v dd σ' G' H' k x rv p => ke C f v d dd σ' ρ1 G' H' k x rv (hx ρ1 C f d p)) h
/-- a call whose exceptions go on out of the def -/
theorem eb_callXP {K : PySem.W.Frag} {C : Cn} {Fam : Rsc → Prop} {ts : TA} {E : XK} {Ξ : Addr → Str → D → Prop} (ke : KE Γ Ξ E) (hK : K = Γ.K) (hF : Fam Rsc.no) (h : AW Γ ts ρ fun ds ρ1 => C Γ.K 0 ds (fun b => Ψ b ρ1) Ξ) : EB Γ (tCall (SpD K Fam C) [] E ts) ρ Ψ := fun σ G H Q k q =>
  h σ G H _ k fun ds ρ1 vs G1 H1 e1 k1 r1 hc => by
    subst hK
    show SpD Γ.K Fam C (vs ++ []) H1 Q E
    rw [List.append_nil]
    refine ⟨Rsc.no, G1, ds, _, Ξ, hF, trivial, fun _ z => z.elim, k1.gh, r1, hc, fun b v G' H' a hb p => ?_, fun C f v d dd G' H' a hd h0 rv x => ?_⟩
    · have a' := Aft.no k1.res k1.rg k1.gh a
      refine q b ρ1 v G' H' (e1.trans a.gg) (k1.aft a') (br_of k1 ?_) p
      cases b with
      | fz d => exact hb
      | ow ds =>
        obtain ⟨c, xs, e, h1, h2, h3, h4, h5⟩ := hb
        exact ⟨c, xs, e, h1, h2, h3, fun z => Γ.R.dom H1 c k1.res z h5, h5⟩
    · exact ke C f v d dd σ ρ1 G' H' (k1.aft (Aft.no k1.res k1.rg k1.gh a)) (xc_of k1 h0 hd) rv x
/-- the wish of a body within a try -/
def WOk (Γ : Ctx) (W : WX) (Ξ : Env → Addr → Str → D → Prop) (G0 : Hp) : Prop := ∀ ρ1 C f d v dd σ' G' H', Ex G0 G' → Ok Γ G' H' σ' ρ1 → XC Γ H' dd f v → Rep Γ.K G' v d → Ξ ρ1 C f d → W (.ref C) (some dd) σ' H'
theorem eb_callS {C : Cn} {Fam : Rsc → Prop} {ts : TA} {W : WX} {Ξ : Env → Addr → Str → D → Prop} (hF : Fam Rsc.no) (h : AW Γ ts ρ fun ds ρ1 => C Γ.K 0 ds (fun b => Ψ b ρ1) (Ξ ρ1)) : ∀ σ G H (Q : VK), Ok Γ G H σ ρ → (∀ ρ1 C f d v dd G' H', Ex G G' → Ok Γ G' H' σ ρ1 → XC Γ H' dd f v → Rep Γ.K G' v d → Ξ ρ1 C f d → W (.ref C) (some dd) σ H') →
    (∀ b ρ' v G' H', Ex G G' → Ok Γ G' H' σ ρ' → BR Γ G' H' σ ρ' v b → Ψ b ρ' → Q v H') → tCallS (SpD Γ.K Fam C) (WE W) ts σ H Q := fun σ G H Q k w q =>
  h σ G H _ k fun ds ρ1 vs G1 H1 e1 k1 r1 hc => by
    refine ⟨Rsc.no, G1, ds, _, _, hF, trivial, fun _ z => z.elim, k1.gh, r1, hc, fun b v G' H' a hb p => ?_, fun C f v d dd G' H' a hd h0 rv x => ?_⟩
    · have a' := Aft.no k1.res k1.rg k1.gh a
      refine q b ρ1 v G' H' (e1.trans a.gg) (k1.aft a') (br_of k1 ?_) p
      cases b with
      | fz d => exact hb
      | ow ds =>
        obtain ⟨c, xs, e, h1, h2, h3, h4, h5⟩ := hb
        exact ⟨c, xs, e, h1, h2, h3, fun z => Γ.R.dom H1 c k1.res z h5, h5⟩
    · have a' := Aft.no k1.res k1.rg k1.gh a
      exact w ρ1 C f d v dd G' H' (e1.trans a.gg) (k1.aft a') (xc_of k1 h0 hd) rv x
/-- the body of a try: for any wish that holds what the clauses promise -/
def TryB (Γ : Ctx) (tb : WX → TS) (ρ : Env) (Δ : Fin) : Prop := ∀ W σ G H (D : Ends), Ok Γ G H σ ρ → WOk Γ W Δ.xr G →
  (∀ ρ' σ' G' H', Ex G G' → Ok Γ G' H' σ' ρ' → Δ.nx ρ' → D.nx σ' H') → (∀ b v σ' ρ' G' H', Ok Γ G' H' σ' ρ' → BR Γ G' H' σ' ρ' v b → Δ.rt b → D.rt v H') →
  (∀ ρ' σ' G' H', Ex G G' → Ok Γ G' H' σ' ρ' → Δ.bk ρ' → D.bk σ' H') → (∀ ρ' σ' G' H', Ex G G' → Ok Γ G' H' σ' ρ' → Δ.ct ρ' → D.ct σ' H') → tb W D σ H
theorem tryB_asg {K : PySem.W.Frag} {C : Cn} {Fam : Rsc → Prop} {ts : TA} {i : Nat} (hK : K = Γ.K) (hF : Fam Rsc.no) (h : AW Γ ts ρ fun ds ρ1 => C Γ.K 0 ds (fun b => Δ.nx (ρ1.set i (some b))) (Δ.xr ρ1)) : TryB Γ (fun W => tAsg (tCallS (SpD K Fam C) (WE W) ts) (gName i)) ρ Δ := by
  subst hK
  exact fun W σ G H D k w hn hr hb hc =>
   eb_callS (Ψ := fun b ρ1 => Δ.nx (ρ1.set i (some b))) (Ξ := Δ.xr) hF h σ G H _ k (fun ρ1 C f d v dd G' H' e k' hd rv x => w ρ1 C f d v dd σ G' H' e k' hd rv x) fun b ρ1 v G1 H1 e1 k1 r1 p => hn _ _ G1 H1 e1 (k1.store r1) p
theorem tryB_drop {K : PySem.W.Frag} {C : Cn} {Fam : Rsc → Prop} {ts : TA} (hK : K = Γ.K) (hF : Fam Rsc.no) (h : AW Γ ts ρ fun ds ρ1 => C Γ.K 0 ds (fun b => Δ.nx ρ1) (Δ.xr ρ1)) : TryB Γ (fun W => tDrop (tCallS (SpD K Fam C) (WE W) ts)) ρ Δ := by
  subst hK
  exact fun W σ G H D k w hn hr hb hc =>
   eb_callS (Ψ := fun b ρ1 => Δ.nx ρ1) (Ξ := Δ.xr) hF h σ G H _ k (fun ρ1 C f d v dd G' H' e k' hd rv x => w ρ1 C f d v dd σ G' H' e k' hd rv x) fun b ρ1 v G1 H1 e1 k1 r1 p => hn _ _ G1 H1 e1 k1 p
/-- try: tb; except c as (slot i): ts -/
theorem sw_try {K : PySem.W.Frag} {c : Value} {i : Nat} {tb : WX → TS} {tx : Addr → Value → Option Addr → TS} {Wout : WX} (Ξ : Env → Addr → Str → D → Prop) (hK : K = Γ.K) (hb : TryB Γ tb ρ { Δ with xr := Ξ })
    (hs : ∀ ρ1 C f d, Ξ ρ1 C f d → PySem.W.exmOne K (.ref C) c = some true ∧ ∀ a dd, SW Γ (tx a (.ref C) (some dd)) (ρ1.set i (some (.fz (.err a dd f d)))) { Δ with nx := fun ρ2 => Δ.nx (ρ2.set i none), bk := fun ρ2 => Δ.bk (ρ2.set i none), ct := fun ρ2 => Δ.ct (ρ2.set i none) }) :
    SW Γ (fun D σ H => tb (wAs K c i tx Wout D) D σ H) ρ Δ := fun σ G H D k hn hr hbk hc => by
  subst hK
  refine hb _ σ G H D k (fun ρ1 C f d v dd σ' G' H' e k' x rv xi => ?_) hn hr hbk hc
  obtain ⟨h1, h2⟩ := hs ρ1 C f d xi
  refine ⟨true, h1, fun _ a ha => ?_, fun z => Bool.noConfusion z⟩
  -- the exception's dict is frozen
  have key : ∃ G2, Ex G' G2 ∧ Ok Γ G2 H' σ' ρ1 ∧ G2 dd = some (.xd [(f, v)]) := by
    cases eg : G' dd with
    | some u =>
      have z := k'.gh _ _ eg
      rw [x.at_] at z
      cases z
      exact ⟨G', Ex.refl _, k', eg⟩
    | none =>
      have gg : Ex G' (upd G' dd (.xd [(f, v)])) := Ex.new eg
      refine ⟨_, gg, ⟨fun b o h => ?_, k'.g0.trans gg, fun b g1 g2 => ?_, k'.fr, k'.dm, k'.res, fun b h => by rw [upd_ne fun e => x.nf (by rw [← e]; exact h)]; exact k'.rg b h, k'.len, fun j b h => ?_, k'.dj, fun p hp => ?_, k'.nx⟩, upd_same⟩
      · by_cases e : b = dd
        · subst e
          rw [upd_same] at h
          cases h
          exact x.at_
        · rw [upd_ne e] at h
          exact k'.gh b o h
      · rw [upd_ne fun e => g2 (by rw [e]; exact x.nh)]
        exact k'.nw b g1 g2
      · obtain ⟨w, g1, g2⟩ := k'.var j b h
        refine ⟨w, g1, ?_⟩
        cases b with
        | fz d => exact Rep.mono gg g2
        | ow es =>
          obtain ⟨c, ys, rfl, q1, q2, q3, q4, q5⟩ := g2
          have hc : c ≠ dd := fun e => by rw [e, x.at_] at q1; cases q1; cases q2
          exact ⟨c, ys, rfl, q1, RepC.mono gg q2, by rw [upd_ne hc]; exact q3, q4, q5⟩
      · obtain ⟨e1, e2, e3⟩ := k'.cel p hp
        exact ⟨e1, by rw [upd_ne (x.nx p hp)]; exact e2, e3⟩
  obtain ⟨G2, e2, k2, hg⟩ := key
  have un : ∀ {ρ2 : Env} {σ2 : St} {G3 H3 : Hp}, Ok Γ G3 H3 σ2 ρ2 → Ok Γ G3 H3 (σ2.set i none) (ρ2.set i none) := fun k => k.wipe1 i
  exact h2 a dd _ G2 H' _ (k2.store (.fz (Rep.err hg (rv.mono e2)))) (fun ρ' σ' G' H' e' k' p => hn _ _ G' H' ((e.trans e2).trans e') (un k') p) hr (fun ρ' σ' G' H' e' k' p => hbk _ _ G' H' ((e.trans e2).trans e') (un k') p) (fun ρ' σ' G' H' e' k' p => hc _ _ G' H' ((e.trans e2).trans e') (un k') p)
/-- e.f of the caught exception -/
theorem ew_xf {a dd : Addr} {C : Addr} {f : Str} (h : EW Γ te ρ fun x ρ1 => ∃ d, x = .err a dd f d ∧ Φ d ρ1) : EW Γ (tXf a (.ref C) (some dd) C f te) ρ Φ := fun σ G H Q k q =>
  h σ G H _ k fun x ρ1 v G1 H1 e1 k1 r1 ⟨d, e, p⟩ => by
    subst e
    cases r1 with
    | err hg hs => exact ⟨rfl, rfl, dd, _, _, rfl, k1.gh _ _ hg, by rw [look_put, if_pos rfl], q d ρ1 _ G1 H1 e1 k1 hs p⟩
/-- a call with keywords -/
theorem eb_callKP {K : PySem.W.Frag} {C : Cn} {Fam : Rsc → Prop} {ts tk : TA} {E : XK} {gV : List V → List V → List V} {gD : List D → List D → List D} (hK : K = Γ.K) (hF : Fam Rsc.no) (hg : ∀ {G vs ws ds es}, RepL Γ.K G vs ds → RepL Γ.K G ws es → RepL Γ.K G (gV vs ws) (gD ds es)) (h : AW Γ ts ρ fun ds ρ1 => AW Γ tk ρ1 fun es ρ2 => C Γ.K 0 (gD ds es) (fun b => Ψ b ρ2) NoX) : EB Γ (tCallK (SpD K Fam C) gV E ts tk) ρ Ψ := fun σ G H Q k q =>
  h σ G H _ k fun ds ρ0 vs G0 H0 e0 k0 r0 h1 => h1 σ G0 H0 _ k0 fun es ρ1 ws G1 H1 e1 k1 r1 hc => by
    subst hK
    refine ⟨Rsc.no, G1, _, _, NoX, hF, trivial, fun _ z => z.elim, k1.gh, hg (r0.mono e1) r1, hc, fun b v G' H' a hb p => ?_, fun _ _ _ _ _ _ _ _ _ _ _ z => z.elim⟩
    have a' := Aft.no k1.res k1.rg k1.gh a
    refine q b ρ1 v G' H' ((e0.trans e1).trans a.gg) (k1.aft a') (br_of k1 ?_) p
    cases b with
    | fz d => exact hb
    | ow ds =>
      obtain ⟨c, xs, e, h1, h2, h3, h4, h5⟩ := hb
      exact ⟨c, xs, e, h1, h2, h3, fun z => Γ.R.dom H1 c k1.res z h5, h5⟩

/-! ### truth -/
def truD : D → Option Bool
  | .non => some false
  | .bl b => some b
  | .int i => some (i != 0)
  | .tup ds => some (!ds.isEmpty)
  | .lst ds => some (!ds.isEmpty)
  | _ => none
theorem isE_of {K : PySem.W.Frag} {G : Hp} {xs : List V} {ds : List D} (h : RepL K G xs ds) : xs.isEmpty = ds.isEmpty := by
  cases h <;> rfl
theorem tw_tru {K : PySem.W.Frag} (hK : K = Γ.K) (h : EW Γ ta ρ fun d ρ1 => ∃ b, truD d = some b ∧ Θ b ρ1) : TW Γ (fun σ H Q => ta σ H fun x H' => ∃ k, TruV K x H' k ∧ Q k H') ρ Θ := fun σ G H Q k q =>
  h σ G H _ k fun d ρ1 v G1 H1 e1 k1 r1 ⟨b, hb, p⟩ => by
    subst hK
    refine ⟨b, ?_, q b ρ1 G1 H1 e1 k1 p⟩
    cases r1 with
    | non => cases hb; exact rfl
    | bl c => cases hb; exact rfl
    | int i => cases hb; exact rfl
    | str x => cases hb
    | tup hq hs => cases hb; exact .inr (.inl ⟨_, sq_up k1.gh hq, by rw [isE_of hs]⟩)
    | lst hq hs => cases hb; exact .inl ⟨_, seq_of k1.gh hq, by rw [isE_of hs]⟩
    | obj _ _ => cases hb
    | ptr a => cases hb
    | err _ _ => cases hb
    | dct _ _ => cases hb
/-- x.isEmpty of a slot's own list -/
theorem tw_truO {K : PySem.W.Frag} {l : Nat} {ds : List D} (hK : K = Γ.K) (h : ρ[l]? = some (some (.ow (.lst ds)))) (p : Θ (!ds.isEmpty) ρ) : TW Γ (fun σ H Q => tVar l σ H fun x H' => ∃ k, TruV K x H' k ∧ Q k H') ρ Θ := fun σ G H Q k q => by
  subst hK
  obtain ⟨a, xs, h1, g1, g2⟩ := k.lst h
  exact ⟨_, h1, _, .inl ⟨xs, SqL.of g1, rfl⟩, q _ ρ G H (Ex.refl G) k (by rw [isE_of g2]; exact p)⟩
theorem spd_len {K : PySem.W.Frag} {Fam : Rsc → Prop} {C : Cn} {n : Nat} {vs : List V} {H : Hp} {Q : VK} {E : XK} (hl : ∀ K w ds Ψ Ξ, C K w ds Ψ Ξ → ds.length = n) (h : SpD K Fam C vs H Q E) : vs.length = n := by
  obtain ⟨R, G, ds, Ψ, Ξ, _, _, _, _, r, c, _⟩ := h
  rw [r.length]
  exact hl _ _ _ _ _ c
/-- one of two promises -/
def COr (C1 C2 : Cn) : Cn := fun K w ds Ψ Ξ => C1 K w ds Ψ Ξ ∨ C2 K w ds Ψ Ξ
theorem spd_or {K : PySem.W.Frag} {Fam : Rsc → Prop} {C1 C2 : Cn} {vs : List V} {H : Hp} {Q : VK} {E : XK} (h : SpD K Fam (COr C1 C2) vs H Q E) : SpD K Fam C1 vs H Q E ∨ SpD K Fam C2 vs H Q E := by
  obtain ⟨R, G, ds, Ψ, Ξ, h1, h2, h3, h4, h5, h6 | h6, h7, h8⟩ := h
  · exact .inl ⟨R, G, ds, Ψ, Ξ, h1, h2, h3, h4, h5, h6, h7, h8⟩
  · exact .inr ⟨R, G, ds, Ψ, Ξ, h1, h2, h3, h4, h5, h6, h7, h8⟩
abbrev AnyR : Rsc → Prop := fun _ => True
/-! a // b for any b but 0 -/
def CFd (i j : Int) : Prop := j ≠ 0 ∧ j.natAbs.log2 < 9000
theorem op_fdivG {X : Cx} : OpR X (binaryOp .FloorDiv) (rI CFd fun i j => .int (i.fdiv j)) := opI fun i j _ _ _ _ _ hc q => PyProof.Rows.floordiv_int hc.1 q (.inl (PyProof.noPylong_of_log2 hc.2))
theorem cfd_of {i j : Int} {n : Nat} (h : j ≠ 0) (hb : j.natAbs < 2 ^ n) (hn : n ≤ 8999) : CFd i j := ⟨h, Nat.lt_of_lt_of_le (PySem.Flt.log2_lt_of (by
  by_cases h0 : n = 0
  · subst h0
    exfalso
    have : j.natAbs < 1 := hb
    omega
  · omega) hb) (by omega)⟩
/-! == of data -/
mutual
inductive Py : D → PyData → Prop
  | non : Py .non .none
  | bl (b : Bool) : Py (.bl b) (.bool b)
  | int (i : Int) : Py (.int i) (.int i)
  | str (x : Str) : Py (.str x) (.str x)
  | tup {ds : List D} {es : List PyData} (h : PyL ds es) : Py (.tup ds) (.tuple es)
  | lst {ds : List D} {es : List PyData} (h : PyL ds es) : Py (.lst ds) (.list es)
inductive PyL : List D → List PyData → Prop
  | nil : PyL [] []
  | cons {d : D} {e : PyData} {ds : List D} {es : List PyData} (h : Py d e) (hs : PyL ds es) : PyL (d :: ds) (e :: es)
end
mutual
theorem dp_of {K : PySem.W.Frag} {G H : Hp} (x : Ex G H) : ∀ {v : V} {d : D} {e : PyData}, Rep K G v d → Py d e → Dp K H v e
  | _, _, _, .non, .non => .non
  | _, _, _, .bl b, .bl _ => .bl b
  | _, _, _, .int i, .int _ => .int i
  | _, _, _, .str s, .str _ => .str s
  | _, _, _, .tup h hs, .tup p => .tup (sq_up x h) (dpAll_of x hs p)
  | _, _, _, .lst h hs, .lst p => .lst (seq_of x h) (dpAll_of x hs p)
theorem dpAll_of {K : PySem.W.Frag} {G H : Hp} (x : Ex G H) : ∀ {vs : List V} {ds : List D} {es : List PyData}, RepL K G vs ds → PyL ds es → DpAll K H vs es
  | _, _, _, .nil, .nil => .nil
  | _, _, _, .cons h hs, .cons p ps => .cons (dp_of x h p) (dpAll_of x hs ps)
end
theorem opv_eqD {K : PySem.W.Frag} {x y : D} {d e : PyData} (hK : K = Γ.K) (hx : Py x d) (hy : Py y e) (h1 : SeqAt.shaped d = true) (h2 : SeqAt.shaped e = true) : OpV Γ (rEqD K) x y (.bl (PyData.eqv d e)) := fun G H vx vy Q ex rx ry q => by
  subst hK
  exact ⟨d, e, dp_of ex rx hx, dp_of ex ry hy, h1, h2, q _ (.bl _)⟩

/-! ### objects of own classes -/
def putD (f : Str) (v : D) : List (Str × D) → List (Str × D)
  | [] => [(f, v)]
  | (g, x) :: r => if g = f then (g, v) :: r else (g, x) :: putD f v r
theorem RepF.put {K : PySem.W.Frag} {G : Hp} {f : Str} {v : V} {d : D} (r : Rep K G v d) : ∀ {gs : List (Str × V)} {fs : List (Str × D)}, RepF K G gs fs → RepF K G (putF f v gs) (putD f d fs)
  | _, _, .nil => .cons r .nil
  | _, _, .cons (f := g) h hs => by
    unfold putF putD
    by_cases e : g = f
    · rw [if_pos e, if_pos e]
      exact .cons r hs
    · rw [if_neg e, if_neg e]
      exact .cons h (RepF.put r hs)
theorem RepF.length {K : PySem.W.Frag} {G : Hp} : ∀ {gs : List (Str × V)} {fs : List (Str × D)}, RepF K G gs fs → gs.length = fs.length
  | _, _, .nil => rfl
  | _, _, .cons _ hs => congrArg (· + 1) (RepF.length hs)
/-- e.f -/
theorem ew_fld {K : PySem.W.Frag} {f : Str} (hK : K = Γ.K) (h : EW Γ ta ρ fun d ρ1 => ∃ C fs x, d = .obj C fs ∧ Cls Γ.K C ∧ NoAttr Γ.K C f ∧ fs.lookup f = some x ∧ Φ x ρ1) : EW Γ (tFld K ta f) ρ Φ := fun σ G H Q k q =>
  h σ G H _ k fun d ρ1 v G1 H1 e1 k1 r1 ⟨C, fs, x, hd, h1, h2, h3, p⟩ => by
    subst hK
    subst hd
    cases r1 with
    | obj hq hs =>
      obtain ⟨y, hy, ry⟩ := hs.look h3
      exact ⟨_, C, _, _, y, rfl, k1.gh _ _ hq, h1, h2, hy, q x ρ1 y G1 H1 e1 k1 ry p⟩
/-- x.f = e, x an object that the slot alone holds -/
theorem sw_fld {K : PySem.W.Frag} {f : Str} {i : Nat} {c0 : Ct} (hK : K = Γ.K) (h0 : ρ[i]? = some (some (.ow c0))) (h : EW Γ te ρ fun d ρ1 => ∃ C fs, ρ1[i]? = some (some (.ow (.obj C fs))) ∧ Cls Γ.K C ∧ NoAttr Γ.K C f ∧ fs.length < 1000 ∧ Δ.nx (ρ1.set i (some (.ow (.obj C (putD f d fs)))))) : SW Γ (sFld K (tVar i) te f) ρ Δ := fun σ G H D k hn hr hb hc => by
  subst hK
  refine h σ G H _ k fun d ρ1 v G1 H1 e1 k1 r1 ⟨C, fs, hi, h1, h2, h3, p⟩ => ?_
  obtain ⟨v1, g1, a, o, rfl, g2, g3, _⟩ := k1.var i _ hi
  cases g3 with
  | @obj _ dx gs _ g3 => exact ⟨_, g1, a, C, dx, gs, rfl, g2, h1, h2, by rw [g3.length]; exact h3, hn _ σ G1 _ e1 (k1.mut hi g1 (.obj (g3.put r1))) p⟩
/-- what an __init__ promises: of the arguments behind self; a result is the object, filled -/
def SpI (K : PySem.W.Frag) (Cl : Addr) (C : Cn) : Sp := fun vs H Q E => ∃ (x dx : Addr) (ws : List V) (G : Hp) (ds : List D) (Ψ : B → Prop) (Ξ : Addr → Str → D → Prop), vs = .ref x :: ws ∧ H x = some (.ins Cl dx []) ∧ G x = none ∧ Ex G (L2.del H x) ∧ RepL K G ws ds ∧ C K 0 ds Ψ Ξ ∧
  (∀ b G' H', Aft Rsc.no G (L2.del H x) G' H' → BVr K Rsc.no G' H' (L2.del H x) (.ref x) b → Ψ b → Q .non H') ∧
  (∀ Cl f v d dd G' H', Aft Rsc.no G (L2.del H x) G' H' → H' dd = some (.xd [(f, v)]) → L2.del H x dd = none → Rep K G' v d → Ξ Cl f d → E (.ref Cl) (some dd) H')
theorem spi_len {K : PySem.W.Frag} {Cl : Addr} {C : Cn} {n : Nat} {vs : List V} {H : Hp} {Q : VK} {E : XK} (hl : ∀ K w ds Ψ Ξ, C K w ds Ψ Ξ → ds.length = n) (h : SpI K Cl C vs H Q E) : vs.length = n + 1 := by
  obtain ⟨x, dx, ws, G, ds, Ψ, Ξ, rfl, _, _, _, r, c, _⟩ := h
  rw [List.length_cons, r.length, hl _ _ _ _ _ c]
theorem Aft.sub {G G' H H1 H' : Hp} (a : Aft Rsc.no G H1 G' H') (h : ∀ b o, H b = some o → H1 b = some o) : Aft Rsc.no G H G' H' :=
  ⟨a.gg, a.gh, a.res, a.rg, fun b h1 h2 => a.nw b h1 (by
    cases e : H b with
    | none => exact absurd e h2
    | some o =>
      rw [h b o e]
      simp), fun b o h1 h2 => a.fr b o h1 (h b o h2), fun b h1 => a.dm b (by
    cases e : H b with
    | none => exact absurd e h1
    | some o =>
      rw [h b o e]
      simp)⟩
/-- C(..) -/
theorem eb_make {K : PySem.W.Frag} {Cl : Addr} {C : Cn} {ts : TA} {E : XK} (hK : K = Γ.K) (h : AW Γ ts ρ fun ds ρ1 => C Γ.K 0 ds (fun b => Ψ b ρ1) NoX) : EB Γ (tMake Cl (SpI K Cl C) [] E ts) ρ Ψ := fun σ G H Q k q =>
  h σ G H _ k fun ds ρ1 vs G1 H1 e1 k1 r1 hc x dx hx hdx hne => by
    subst hK
    rw [List.append_nil]
    have old : ∀ b o, H1 b = some o → L2.del (upd (upd H1 dx (.own x)) x (.ins Cl dx [])) x b = some o := fun b o hb => by
      rw [del_ne (ne_of_none hb hx), upd_ne (ne_of_none hb hx), upd_ne (ne_of_none hb hdx)]
      exact hb
    refine ⟨x, dx, vs, G1, ds, _, NoX, rfl, upd_same, Evl.fresh_back k1.gh hx, fun b o hb => old b o (k1.gh b o hb), r1, hc, fun b G' H' a hb p => ⟨rfl, ?_⟩, fun _ _ _ _ _ _ _ _ _ _ _ z => z.elim⟩
    have a' := Aft.no k1.res k1.rg k1.gh (a.sub old)
    refine q b ρ1 _ G' H' (e1.trans a.gg) (k1.aft a') (br_of k1 ?_) p
    cases b with
    | fz d => exact hb
    | ow c =>
      obtain ⟨y, o, e, h1, h2, h3, h4, h5⟩ := hb
      cases e
      exact ⟨x, o, rfl, h1, h2, h3, fun z => Γ.R.dom H1 x k1.res z hx, hx⟩
/-- the body of an __init__: self is the pointer x; what the object holds: fs -/
def MK (Γ : Ctx) (x C dx : Addr) (ts : TS) (ρ : Env) (fs : List (Str × D)) (Ψ : List (Str × D) → Prop) (Ξ : Addr → Str → D → Prop) : Prop := ∀ σ G H (D : Ends) gs, Γ.X = [] → Γ.H x = none → Ok (Γ.ext (x, .ins C dx gs)) G H σ ρ → RepF Γ.K G gs fs →
  (∀ gs' fs' σ' ρ' G' H', Ok (Γ.ext (x, .ins C dx gs')) G' H' σ' ρ' → RepF Γ.K G' gs' fs' → Ψ fs' → D.nx σ' H') → ts D σ H
theorem mk_fld {K : PySem.W.Frag} {x C dx : Addr} {f : Str} {i : Nat} {fs : List (Str × D)} {P : List (Str × D) → Prop} {Ξ : Addr → Str → D → Prop} (hK : K = Γ.K) (h1 : Cls Γ.K C) (h2 : NoAttr Γ.K C f) (h3 : fs.length < 1000)
    (h : ∀ c, EW (Γ.ext c) te ρ fun d ρ1 => ρ1[i]? = some (some (.fz (.ptr x))) ∧ MK Γ x C dx tu ρ1 (putD f d fs) P Ξ) : MK Γ x C dx (tSeq (sFld K (tVar i) te f) tu) ρ fs P Ξ := fun σ G H D gs hX hz k r kn => by
  subst hK
  refine h _ σ G H _ k fun d ρ1 v G1 H1 e1 k1 r1 ⟨hi, hm⟩ => ?_
  obtain ⟨v1, g1, g2⟩ := k1.var i _ hi
  have g2' : Rep Γ.K G1 v1 (.ptr x) := g2
  cases g2'
  obtain ⟨c1, c2, c3⟩ := k1.cel _ List.mem_cons_self
  have r' := r.mono e1
  refine ⟨_, g1, x, C, dx, gs, rfl, c1, h1, h2, by rw [r'.length]; exact h3, ?_⟩
  have no : ∀ j, ¬ own σ ρ1 j x := fun j o => k1.nx j x o _ List.mem_cons_self rfl
  have k2 : Ok Γ G1 (upd H1 x (.ins C dx (putF f v gs))) σ ρ1 := k1.unext.touch c2 c3 no (by rw [hX]; simp) hz
  exact hm σ G1 _ D _ hX hz (k2.ext upd_same c2 c3 no) (r'.put r1) kn
theorem mk_last {K : PySem.W.Frag} {x C dx : Addr} {f : Str} {i : Nat} {fs : List (Str × D)} {P : List (Str × D) → Prop} {Ξ : Addr → Str → D → Prop} (hK : K = Γ.K) (h1 : Cls Γ.K C) (h2 : NoAttr Γ.K C f) (h3 : fs.length < 1000)
    (h : ∀ c, EW (Γ.ext c) te ρ fun d ρ1 => ρ1[i]? = some (some (.fz (.ptr x))) ∧ P (putD f d fs)) : MK Γ x C dx (sFld K (tVar i) te f) ρ fs P Ξ := fun σ G H D gs hX hz k r kn => by
  subst hK
  refine h _ σ G H _ k fun d ρ1 v G1 H1 e1 k1 r1 ⟨hi, hm⟩ => ?_
  obtain ⟨v1, g1, g2⟩ := k1.var i _ hi
  have g2' : Rep Γ.K G1 v1 (.ptr x) := g2
  cases g2'
  obtain ⟨c1, c2, c3⟩ := k1.cel _ List.mem_cons_self
  have r' := r.mono e1
  refine ⟨_, g1, x, C, dx, gs, rfl, c1, h1, h2, by rw [r'.length]; exact h3, ?_⟩
  have no : ∀ j, ¬ own σ ρ1 j x := fun j o => k1.nx j x o _ List.mem_cons_self rfl
  have k2 : Ok Γ G1 (upd H1 x (.ins C dx (putF f v gs))) σ ρ1 := k1.unext.touch c2 c3 no (by rw [hX]; simp) hz
  exact kn _ _ σ ρ1 G1 _ (k2.ext upd_same c2 c3 no) (r'.put r1) hm
/-- statements ahead of a store -/
theorem mk_pre {x C dx : Addr} {fs : List (Str × D)} {P : List (Str × D) → Prop} {Ξ : Addr → Str → D → Prop} (h : ∀ c, SW (Γ.ext c) ts ρ { nx := fun ρ1 => MK Γ x C dx tu ρ1 fs P Ξ, rt := fun _ => False, bk := fun _ => False, ct := fun _ => False, xr := fun _ => Ξ }) : MK Γ x C dx (tSeq ts tu) ρ fs P Ξ := fun σ G H D gs hX hz k r kn =>
  h _ σ G H _ k (fun ρ1 σ1 G1 H1 e1 k1 p => p σ1 G1 H1 D gs hX hz k1 (r.mono e1) kn) (fun _ _ _ _ _ _ _ _ z => z.elim) (fun _ _ _ _ _ _ z => z.elim) (fun _ _ _ _ _ _ z => z.elim)
theorem body_mk {K : PySem.W.Frag} {Cl : Addr} {C : Cn} {N : List Str} {t : TS} {vs : List V} {H : Hp} {Q : VK} {E : XK} (n : Nat) (hn : n + 1 ≤ N.length) (hlen : ∀ K w ds Ψ Ξ, C K w ds Ψ Ξ → ds.length = n) (h : SpI K Cl C vs H Q E)
    (hb : ∀ (Γ : Ctx) (x dx : Addr) (ds : List D) (Ψ : B → Prop) (Ξ : Addr → Str → D → Prop), Γ.K = K → C K 0 ds Ψ Ξ → (∀ c, KE (Γ.ext c) Ξ E) →
      MK Γ x Cl dx t (some (.fz (.ptr x)) :: (ds.map (fun d => some (.fz d)) ++ List.replicate (N.length - (ds.length + 1)) none)) [] (fun fs => Ψ (.ow (.obj Cl fs))) Ξ) :
    t { nx := fun _ H' => Q .non H', rt := Q } (L2.start N vs) H := by
  obtain ⟨x, dx, ws, G, ds, Ψ, Ξ, rfl, hx, hg, hG, rl, hc, kq, ke⟩ := h
  have hl := rl.length
  have el := hlen _ _ _ _ _ hc
  have dom : ∀ a, L2.del H x a ≠ none → a ≠ x := fun a h e => h (by rw [e]; exact del_same)
  have un : ∀ {a o}, L2.del H x a = some o → H a = some o := fun {a o} h => by
    have ne : a ≠ x := dom a (by rw [h]; simp)
    rw [del_ne ne] at h
    exact h
  have sl : ∀ (i : Nat) b, (ds.map (fun d => some (B.fz d)) ++ List.replicate (N.length - (ds.length + 1)) none)[i]? = some (some b) → ∃ d, ds[i]? = some d ∧ b = .fz d := fun i b h => by
    by_cases hi : i < ds.length
    · rw [List.getElem?_append_left (by rw [List.length_map]; exact hi), List.getElem?_map] at h
      cases hd : ds[i]? with
      | none =>
        rw [hd] at h
        cases h
      | some d =>
        rw [hd] at h
        cases h
        exact ⟨d, rfl, rfl⟩
    · exfalso
      rw [List.getElem?_append_right (by rw [List.length_map]; omega)] at h
      obtain ⟨_, e⟩ := List.getElem?_eq_some_iff.mp h
      rw [List.getElem_replicate] at e
      cases e
  have fz : ∀ (i : Nat) b, (some (B.fz (.ptr x)) :: (ds.map (fun d => some (B.fz d)) ++ List.replicate (N.length - (ds.length + 1)) none))[i]? = some (some b) → ∃ d, b = .fz d := fun i b h => by
    cases i with
    | zero =>
      cases h
      exact ⟨_, rfl⟩
    | succ i =>
      obtain ⟨d, _, e⟩ := sl i b h
      exact ⟨d, e⟩
  have hk : Ok ⟨K, G, L2.del H x, Rsc.no, []⟩ G H (L2.start N (.ref x :: ws)) (some (.fz (.ptr x)) :: (ds.map (fun d => some (.fz d)) ++ List.replicate (N.length - (ds.length + 1)) none)) := by
    refine ⟨fun a o h => un (hG a o h), Ex.refl G, fun a h _ => h, fun a o _ h => un h, fun a h => ?_, trivial, fun _ z => z.elim, ?_, fun i b h => ?_, fun i j a ⟨_, c, q⟩ h2 => ?_, fun p hp => absurd hp (by simp), fun i a _ p hp => absurd hp (by simp)⟩
    · have ne : a ≠ x := dom a h
      have h' : L2.del H x a ≠ none := h
      rw [del_ne ne] at h'
      exact h'
    · unfold L2.start
      rw [List.length_append, List.length_map, List.length_replicate, List.length_cons, List.length_cons, List.length_append, List.length_map, List.length_replicate, hl]
      omega
    · cases i with
      | zero =>
        cases h
        exact ⟨_, rfl, Rep.ptr x⟩
      | succ i =>
        obtain ⟨d, hd, rfl⟩ := sl i b h
        obtain ⟨v, hv, rv⟩ := rl.getD hd
        refine ⟨v, ?_, rv⟩
        show ((V.ref x :: ws).map some ++ _)[i + 1]? = _
        rw [List.map_cons, List.cons_append, List.getElem?_cons_succ, List.getElem?_append_left (by rw [List.length_map, hl]; exact (List.getElem?_eq_some_iff.mp hd).1), List.getElem?_map, hv]
        rfl
    · obtain ⟨d, e⟩ := fz i _ q
      cases e
  have hk2 : Ok (Ctx.ext ⟨K, G, L2.del H x, Rsc.no, []⟩ (x, .ins Cl dx [])) G H (L2.start N (.ref x :: ws)) (some (.fz (.ptr x)) :: (ds.map (fun d => some (.fz d)) ++ List.replicate (N.length - (ds.length + 1)) none)) := hk.ext hx hg (fun z => z) fun i ⟨_, c, q⟩ => by
    obtain ⟨d, e⟩ := fz i _ q
    cases e
  refine hb ⟨K, G, L2.del H x, Rsc.no, []⟩ x dx ds Ψ Ξ rfl hc (fun c C f v d dd σ' ρ' G' H' k xc rv xi => ke C f v d dd G' H' ⟨k.g0, k.gh, k.res, k.rg, k.nw, k.fr, k.dm⟩ xc.at_ xc.nh rv xi) _ G H _ [] rfl del_same hk2 .nil fun gs' fs' σ' ρ' G' H' k r p => ?_
  obtain ⟨c1, c2, c3⟩ := k.cel _ List.mem_cons_self
  exact kq (.ow (.obj Cl fs')) G' H' ⟨k.g0, k.gh, k.res, k.rg, k.nw, k.fr, k.dm⟩ ⟨x, _, rfl, c1, .obj r, c2, c3, del_same⟩ p
end
/-! ### calls by keywords alone -/
theorem pe_callK0 {X : Cx} {CX : CXT} {k : Nat} {f : Addr} {fd : FuncData} {ps ks : List Str} {sp : Sp} {E : XK} {x : Str} {p pos : Pos} {kws : List Keyword} {tk : TA} {g : List Value → List Value → List Value} {gV : List V → List V → List V}
    (F : FnOk X.prog X.w X.K X.mg X.base CX k f fd ps sp) (hr : Room k X.A) (hg : Gl X x) (hm : X.mg x = some (.ref f)) (hk : PySem.W.keepIn X.K (.ref f) = true) (hb : KBinds X.K fd ps ks g gV) (hx : Passes CX X E)
    (hkw : PK X kws tk) (hall : (backToKw pos (keywordEach kws X.env)).all (·.1.isSome) = true := by rfl) (hks : (backToKw pos (keywordEach kws X.env)).filterMap (·.1) = ks := by rfl)
    (hdb : (x == ("__debug__" : Str)) = false := by decide)
    (hpl : ((backTo pos (starEach [] X.env)).any (·.1) || (backToKw pos (keywordEach kws X.env)).any (·.1.isNone)) = false := by rfl) :
    PE X (.Call (.Name x p) [] kws pos) (tCallK sp gV E tNil tk) := by
  refine ⟨fun pins s σ H Q I h => ?_⟩
  refine wpAny_Call_Name_kw (ld_glob I hg hm ?_ hdb)
  refine PySem.W.callWith_KW0 (h₀ := X.base) I.ok.mod.kin hk hall (thn (hkw.run pos pins s σ H _ I h) fun ws s2 ⟨zs, H2, I2, rz, q2⟩ => ⟨I2.kIn, ?_⟩) hpl
  rw [hks]
  exact run_fnk F hr hb hx I2 .nil rz q2
/-- two keywords, in the parameters' order or the other way about -/
def kw2 {α : Type} : List α → List α → List α
  | [], [x, y] => [y, x]
  | _, _ => []
def kw2i {α : Type} : List α → List α → List α
  | [], [x, y] => [x, y]
  | _, _ => []
theorem kbinds2 {K : PySem.W.Frag} {x qual : Str} {st : Stmt} {f : Addr} {fd : FuncData} {p1 p2 : Str} (F : Fun K x qual st f fd)
    (h : ∀ (kV doc pm : Value) (an : Option Addr) (cdv ct u v : Value), bindArgs (PySem.W.fnOf x qual (defArgs st) (defBody st) (defScope st) .none kV doc pm an cdv ct) ⟨[], [(p2, u), (p1, v)]⟩ = pure [(p1, v), (p2, u)]) : KBinds K fd [p1, p2] [p2, p1] kw2 kw2 := by
  obtain ⟨oc, od, kV, doc, pm, an, cdv, ct, osl, rfl, lk, hcd⟩ := F.ex
  refine ⟨fun s us ws _ hl => ?_, fun {vs us zs ws} r1 r2 => ?_⟩
  · match us, ws, hl with
    | [], [u, v], _ => exact BindsTo.of_eq (h kV doc pm an cdv ct u v)
  · cases r1 with
    | cons _ _ => exact .nil
    | nil => cases r2 with
      | nil => exact .nil
      | cons a r2 => cases r2 with
        | nil => exact .nil
        | cons b r2 => cases r2 with
          | nil => exact .cons b (.cons a .nil)
          | cons _ _ => exact .nil
theorem rep_kw2 {K : PySem.W.Frag} {G : Hp} {vs ws : List V} {ds es : List D} (r1 : RepL K G vs ds) (r2 : RepL K G ws es) : RepL K G (kw2 vs ws) (kw2 ds es) := by
  cases r1 with
  | cons _ _ => exact .nil
  | nil => cases r2 with
    | nil => exact .nil
    | cons a r2 => cases r2 with
      | nil => exact .nil
      | cons b r2 => cases r2 with
        | nil => exact .cons b (.cons a .nil)
        | cons _ _ => exact .nil
/-! kinds of data -/
def isIntD : D → Bool | .int _ => true | _ => false
def isBlD : D → Bool | .bl _ => true | _ => false
def isTupD : D → Bool | .tup _ => true | _ => false
def isLstD : D → Bool | .lst _ => true | _ => false
def isStrD : D → Bool | .str _ => true | _ => false
theorem kit_int {d : D} {t : String} (h : tyN d = some t) : kitB t "int" = some (isIntD d || isBlD d) := by cases d <;> cases h <;> simp only [isIntD, isBlD, isTupD, isLstD, isStrD, Bool.or_false, Bool.or_true, Bool.or_self] <;> decide +kernel
theorem kit_bool {d : D} {t : String} (h : tyN d = some t) : kitB t "bool" = some (isBlD d) := by cases d <;> cases h <;> simp only [isIntD, isBlD, isTupD, isLstD, isStrD, Bool.or_false, Bool.or_true, Bool.or_self] <;> decide +kernel
theorem kit_tuple {d : D} {t : String} (h : tyN d = some t) : kitB t "tuple" = some (isTupD d) := by cases d <;> cases h <;> simp only [isIntD, isBlD, isTupD, isLstD, isStrD, Bool.or_false, Bool.or_true, Bool.or_self] <;> decide +kernel
theorem kit_list {d : D} {t : String} (h : tyN d = some t) : kitB t "list" = some (isLstD d) := by cases d <;> cases h <;> simp only [isIntD, isBlD, isTupD, isLstD, isStrD, Bool.or_false, Bool.or_true, Bool.or_self] <;> decide +kernel
theorem kit_str {d : D} {t : String} (h : tyN d = some t) : kitB t "str" = some (isStrD d) := by cases d <;> cases h <;> simp only [isIntD, isBlD, isTupD, isLstD, isStrD, Bool.or_false, Bool.or_true, Bool.or_self] <;> decide +kernel
/-- data whose class is told -/
def Kn (d : D) : Prop := ∃ t, tyN d = some t
theorem kn_int {i : Int} : Kn (.int i) := ⟨_, rfl⟩
theorem kn_tup {ds : List D} : Kn (.tup ds) := ⟨_, rfl⟩
end Dl

/-! Dm: more rules of plain data: kinds of any data, cuts, list methods, zip -/
namespace Dl
open PySem L2
open Evl (Ex)
/-! ### kinds: also of objects -/
def five : List String := ["int", "bool", "tuple", "list", "str"]
/-- data of which isinstance tells -/
def Dt (K : PySem.W.Frag) (d : D) : Prop := Kn d ∨ ∃ C fs, d = .obj C fs ∧ ObjTy K C ∧ ∀ n ∈ five, PySem.W.kitOne K (.ref C) (.type n) = some false
structure IsN (n : String) (f : D → Bool) : Prop where
  of : ∀ d t, tyN d = some t → kitB t n = some (f d)
  m : n ∈ five
  no : ∀ C fs, f (.obj C fs) = false
theorem dt_k {K : PySem.W.Frag} {d : D} {t : String} (h : tyN d = some t) : Dt K d := .inl ⟨t, h⟩
theorem dt_int {K : PySem.W.Frag} {i : Int} : Dt K (.int i) := dt_k rfl
theorem dt_bl {K : PySem.W.Frag} {b : Bool} : Dt K (.bl b) := dt_k rfl
theorem dt_str {K : PySem.W.Frag} {x : Str} : Dt K (.str x) := dt_k rfl
theorem dt_non {K : PySem.W.Frag} : Dt K .non := dt_k rfl
theorem dt_tup {K : PySem.W.Frag} {ds : List D} : Dt K (.tup ds) := dt_k rfl
theorem dt_lst {K : PySem.W.Frag} {ds : List D} : Dt K (.lst ds) := dt_k rfl
theorem Kn.dt {K : PySem.W.Frag} {d : D} (h : Kn d) : Dt K d := .inl h
def isIB (d : D) : Bool := isIntD d || isBlD d
theorem isN_int : IsN "int" isIB := ⟨fun d t h => kit_int h, by simp [five], fun _ _ => rfl⟩
theorem isN_bool : IsN "bool" isBlD := ⟨fun d t h => kit_bool h, by simp [five], fun _ _ => rfl⟩
theorem isN_tuple : IsN "tuple" isTupD := ⟨fun d t h => kit_tuple h, by simp [five], fun _ _ => rfl⟩
theorem isN_list : IsN "list" isLstD := ⟨fun d t h => kit_list h, by simp [five], fun _ _ => rfl⟩
theorem isN_str : IsN "str" isStrD := ⟨fun d t h => kit_str h, by simp [five], fun _ _ => rfl⟩
/-- x[i] of a list, read for x[i] op= e -/
theorem get_own {X : Cx} : PGet X (rIxL X.K) := fun pins s σ H o i ov iv Q I ro ri ⟨p, xs, k, z, e1, e2, hq, he, q⟩ => by
  subst e1 e2
  cases ro
  obtain ⟨t, rfl⟩ := ri
  obtain ⟨its, r, pl, hz⟩ := I.list hq
  obtain ⟨j, hj, hx, lt, lo, hi⟩ := atI_get he
  obtain ⟨u, hu, ru⟩ := r.get hx
  have len : xs.length = its.length := r.length
  have big := line63
  have done : EP X pins σ Q u s := ⟨z, H, I, ru, q⟩
  unfold seqIndex? at hj
  by_cases neg : k < 0
  · simp only [if_pos neg] at hj
    split at hj
    · have ej := Option.some.inj hj
      refine wpAny_mono (PySem.wpAny_getItem_list_neg (x := u) (Q := fun r s' => r = u ∧ EP X pins σ Q r s') pl.isList neg ?_ ?_ ?_ ⟨rfl, done⟩) (fun _ _ h => h.2) fun _ _ h => h
      all_goals first | omega | (rw [List.size_toArray]; omega) | skip
      rw [List.size_toArray, ← len, ej]
      simpa using hu
    · cases hj
  · simp only [if_neg neg] at hj
    split at hj
    · have ej := Option.some.inj hj
      refine wpAny_mono (PySem.wpAny_getItem_list (x := u) (Q := fun r s' => r = u ∧ EP X pins σ Q r s') pl.isList (by omega) (by omega) ?_ ⟨rfl, done⟩) (fun _ _ h => h.2) fun _ _ h => h
      rw [ej]
      simpa using hu
    · cases hj
section
variable {Γ : Ctx} {ρ : Env} {te ta tb : TE} {tt : TT} {ts tu : TS} {Φ : D → Env → Prop} {Ψ : B → Env → Prop} {Θ : Bool → Env → Prop} {Δ : Fin}
theorem dt_ty {K : PySem.W.Frag} {G H : Hp} {v : V} {d : D} (e : Ex G H) (r : Rep K G v d) (hd : Dt K d) : ∃ c, TyX K H v c ∧ ∀ n f, IsN n f → PySem.W.kitOne K c (.type n) = some (f d) := by
  rcases hd with ⟨t, ht⟩ | ⟨C, fs, rfl, T, hk⟩
  · exact ⟨_, tyX_of e r ht, fun n f hn => kit_ty (hn.of d t ht)⟩
  · cases r with
    | obj hq hs => exact ⟨.ref C, .base (.ins (e _ _ hq) T.cl T.ha T.hn T.htk T.hm), fun n f hn => by rw [hn.no]; exact hk n hn.m⟩
theorem ew_isiD {K : PySem.W.Frag} {n : String} {f : D → Bool} (hn : IsN n f) (hK : K = Γ.K) (h : EW Γ te ρ fun d ρ1 => Dt Γ.K d ∧ Φ (.bl (f d)) ρ1) : EW Γ (tCB (rIsi K) (tCons te (tCons (tC (.ty n)) tNil))) ρ Φ := fun σ G H Q k q =>
  h σ G H _ k fun d ρ1 v G1 H1 e1 k1 r1 ⟨hd, p⟩ => by
    subst hK
    obtain ⟨c, h1, h2⟩ := dt_ty k1.gh r1 hd
    exact ⟨v, .ty n, c, .type n, f d, rfl, .ty n, h1, h2 n f hn, q _ ρ1 _ G1 H1 e1 k1 (.bl _) p⟩
theorem ew_isi2D {K : PySem.W.Frag} {n m : String} {f g : D → Bool} (hn : IsN n f) (hm : IsN m g) (hK : K = Γ.K) (h : EW Γ te ρ fun d ρ1 => Dt Γ.K d ∧ Φ (.bl (f d || g d)) ρ1) : EW Γ (tCB (rIsiT K) (tCons te (tCons (tTup (tCons (tC (.ty n)) (tCons (tC (.ty m)) tNil))) tNil))) ρ Φ := fun σ G H Q k q =>
  h σ G H _ k fun d ρ1 v G1 H1 e1 k1 r1 ⟨hd, p⟩ => by
    subst hK
    refine ⟨by show 2 ≤ sizeLine; decide, fun a ha => ?_⟩
    obtain ⟨k2, e2⟩ := k1.new (o := .tup [.ty n, .ty m]) ha
    obtain ⟨c, h1, h2⟩ := dt_ty k2.gh (r1.mono e2) hd
    refine ⟨v, a, [.ty n, .ty m], c, [.type n, .type m], f d || g d, rfl, upd_same, .cons (.ty n) (.cons (.ty m) .nil), h1, ?_, q _ ρ1 _ _ _ (e1.trans e2) k2 (.bl _) p⟩
    refine kitAny_cons (h2 n f hn) (fun z => ?_) (fun z => by rw [z]; rfl)
    rw [z, Bool.false_or]
    cases hg : g d with
    | true => exact kitAny_cons (h2 m g hm) (fun z => by rw [hg] at z; cases z) (fun _ => rfl)
    | false => exact kitAny_cons (h2 m g hm) (fun _ => kitAny_nil) (fun z => by rw [hg] at z; cases z)
/-! ### cuts -/
/-- a bound -/
def BW (Γ : Ctx) (t : TO) (ρ : Env) (Ω : Option Int → Env → Prop) : Prop := ∀ σ G H (Q : Option Int → Hp → Prop), Ok Γ G H σ ρ → (∀ o ρ1 G1 H1, Ex G G1 → Ok Γ G1 H1 σ ρ1 → Ω o ρ1 → Q o H1) → t σ H Q
variable {Ω : Option Int → Env → Prop} {tl th : TO} {ta' : TA}
theorem pw_none (p : Ω none ρ) : BW Γ tNoPart ρ Ω := fun σ G H Q k q => q none ρ G H (Ex.refl G) k p
theorem pw_some (h : EW Γ te ρ fun d ρ1 => ∃ i, d = .int i ∧ Ω (some i) ρ1) : BW Γ (tPart te) ρ Ω := fun σ G H Q k q =>
  h σ G H _ k fun d ρ1 v G1 H1 e1 k1 r1 ⟨i, hd, p⟩ => by
    subst hd
    cases r1
    exact ⟨i, rfl, q _ ρ1 G1 H1 e1 k1 p⟩
def cutD (ds : List D) (lo hi : Option Int) : List D := (ds.drop (HT.sIx ds.length 0 lo)).take (HT.sIx ds.length ds.length hi - HT.sIx ds.length 0 lo)
theorem RepL.drop {K : PySem.W.Frag} {G : Hp} : ∀ {vs : List V} {ds : List D} (n : Nat), RepL K G vs ds → RepL K G (vs.drop n) (ds.drop n)
  | _, _, 0, r => r
  | _, _, n + 1, .nil => .nil
  | _, _, n + 1, .cons _ r => RepL.drop n r
theorem RepL.take {K : PySem.W.Frag} {G : Hp} : ∀ {vs : List V} {ds : List D} (n : Nat), RepL K G vs ds → RepL K G (vs.take n) (ds.take n)
  | _, _, 0, _ => .nil
  | _, _, n + 1, .nil => .nil
  | _, _, n + 1, .cons h r => .cons h (RepL.take n r)
theorem RepL.eraseIdx {K : PySem.W.Frag} {G : Hp} : ∀ {vs : List V} {ds : List D} (n : Nat), RepL K G vs ds → RepL K G (vs.eraseIdx n) (ds.eraseIdx n)
  | _, _, _, .nil => .nil
  | _, _, 0, .cons _ r => r
  | _, _, n + 1, .cons h r => .cons h (RepL.eraseIdx n r)
theorem RepL.cut {K : PySem.W.Frag} {G : Hp} {vs : List V} {ds : List D} (r : RepL K G vs ds) (lo hi : Option Int) : RepL K G (cutV vs lo hi) (cutD ds lo hi) := by
  unfold cutV cutD
  rw [r.length]
  exact (r.drop _).take _
theorem cut_all {α : Type} {xs : List α} {lo hi : Nat} (h1 : lo = 0) (h2 : hi = xs.length) : (xs.drop lo).take (hi - lo) = xs := by
  subst h1 h2
  simp
/-- e[lo:hi], e a tuple -/
theorem ew_cutT {K : PySem.W.Frag} (hK : K = Γ.K) (h : EW Γ te ρ fun d ρ1 => BW Γ tl ρ1 fun lo ρ2 => BW Γ th ρ2 fun hi ρ3 => ∃ ds, d = .tup ds ∧ Φ (.tup (cutD ds lo hi)) ρ3) : EW Γ (tSl (rSlA K) te tl th) ρ Φ := fun σ G H Q k q =>
  h σ G H _ k fun d ρ1 v G1 H1 e1 k1 r1 h1 => h1 σ G1 H1 _ k1 fun lo ρ2 G2 H2 e2 k2 h2 => h2 σ G2 H2 _ k2 fun hi ρ3 G3 H3 e3 k3 ⟨ds, hd, p⟩ => by
    subst hd
    subst hK
    cases r1 with
    | @tup a xs _ hq hs =>
      have e23 := e2.trans e3
      refine ⟨a, xs, rfl, sq_up (e23.trans k3.gh) hq, fun z => ?_, fun _ b hb => ?_⟩
      · have e : cutD ds lo hi = ds := by
          have l := hs.length
          rw [l] at z
          exact cut_all z.1 z.2
        rw [e] at p
        exact q _ ρ3 _ G3 H3 (e1.trans e23) k3 ((Rep.tup hq hs).mono e23) p
      · obtain ⟨k4, e4⟩ := k3.new (o := .tup (cutV xs lo hi)) hb
        exact q _ ρ3 _ _ _ ((e1.trans e23).trans e4) k4 (.tup (SqT.of upd_same) ((hs.mono (e23.trans e4)).cut lo hi)) p
/-- e[lo:hi], e a list that does not change -/
theorem eb_cutL {K : PySem.W.Frag} (hK : K = Γ.K) (h : EW Γ te ρ fun d ρ1 => BW Γ tl ρ1 fun lo ρ2 => BW Γ th ρ2 fun hi ρ3 => ∃ ds, d = .lst ds ∧ Ψ (.ow (.lst (cutD ds lo hi))) ρ3) : EB Γ (tSl (rSlL K) te tl th) ρ Ψ := fun σ G H Q k q =>
  h σ G H _ k fun d ρ1 v G1 H1 e1 k1 r1 h1 => h1 σ G1 H1 _ k1 fun lo ρ2 G2 H2 e2 k2 h2 => h2 σ G2 H2 _ k2 fun hi ρ3 G3 H3 e3 k3 ⟨ds, hd, p⟩ => by
    subst hd
    subst hK
    cases r1 with
    | @lst a xs _ hq hs =>
      have e23 := e2.trans e3
      exact ⟨a, xs, rfl, seq_of (e23.trans k3.gh) hq, fun b hb => q _ ρ3 _ _ _ (e1.trans e23) (k3.newO hb) (br_new k3 hb ((hs.mono e23).cut lo hi)) p⟩
/-- x[lo:hi], x an own list -/
theorem eb_cutO {K : PySem.W.Frag} {l : Nat} {ds0 : List D} (hK : K = Γ.K) (h0 : ρ[l]? = some (some (.ow (.lst ds0)))) (h : BW Γ tl ρ fun lo ρ2 => BW Γ th ρ2 fun hi ρ3 => ∃ ds, ρ3[l]? = some (some (.ow (.lst ds))) ∧ Ψ (.ow (.lst (cutD ds lo hi))) ρ3) : EB Γ (tSl (rSlL K) (tVar l) tl th) ρ Ψ := fun σ G H Q k q => by
  subst hK
  obtain ⟨a, xs, g0, g1, _⟩ := k.lst h0
  refine ⟨_, g0, ?_⟩
  refine h σ G H _ k fun lo ρ2 G2 H2 e2 k2 h2 => h2 σ G2 H2 _ k2 fun hi ρ3 G3 H3 e3 k3 ⟨ds, hl, p⟩ => ?_
  obtain ⟨a', xs', h1, q1, q2⟩ := k3.lst hl
  rw [g0] at h1
  cases h1
  exact ⟨a, xs', rfl, SqL.of q1, fun b hb => q _ ρ3 _ _ _ (e2.trans e3) (k3.newO hb) (br_new k3 hb (q2.cut lo hi)) p⟩
/-- t + u of tuples -/
theorem ew_catT {K : PySem.W.Frag} (hK : K = Γ.K) (h : EW Γ ta ρ fun x ρ1 => EW Γ tb ρ1 fun y ρ2 => ∃ xs ys, x = .tup xs ∧ y = .tup ys ∧ xs.length + ys.length ≤ 100000 ∧ Φ (.tup (xs ++ ys)) ρ2) : EW Γ (tOp (rCatA K) ta tb) ρ Φ := fun σ G H Q k q =>
  h σ G H _ k fun x ρ1 vx G1 H1 e1 k1 r1 h1 => h1 σ G1 H1 _ k1 fun y ρ2 vy G2 H2 e2 k2 r2 ⟨xs, ys, hx, hy, hz, p⟩ => by
    subst hx
    subst hy
    subst hK
    have r1' := r1.mono e2
    cases r1' with
    | @tup a vs _ hq hs =>
      cases r2 with
      | @tup b ws _ hq' hs' =>
        refine ⟨a, b, vs, ws, rfl, rfl, sq_up k2.gh hq, sq_up k2.gh hq', Evl.sz_of (by rw [hs.length, hs'.length]; exact hz), fun z => ?_, fun _ z => ?_, fun _ _ c hc => ?_⟩
        · subst z
          cases hs
          exact q _ ρ2 _ G2 H2 (e1.trans e2) k2 (.tup hq' hs') p
        · subst z
          cases hs'
          rw [List.append_nil] at p
          exact q _ ρ2 _ G2 H2 (e1.trans e2) k2 (.tup hq hs) p
        · obtain ⟨k4, e4⟩ := k2.new (o := .tup (vs ++ ws)) hc
          exact q _ ρ2 _ _ _ ((e1.trans e2).trans e4) k4 (.tup (SqT.of upd_same) ((hs.append hs').mono e4)) p
/-! ### methods of own lists -/
/-- x.pop(e) -/
theorem ew_popO {K : PySem.W.Frag} {l : Nat} {ds0 : List D} (h0 : ρ[l]? = some (some (.ow (.lst ds0)))) (h : EW Γ te ρ fun d ρ1 => ∃ i ds j y, d = .int i ∧ ρ1[l]? = some (some (.ow (.lst ds))) ∧ (-(2 ^ 63) ≤ i ∧ i < 2 ^ 63) ∧ seqIndex? i ds.length = some j ∧ ds[j]? = some y ∧ Φ y (ρ1.set l (some (.ow (.lst (ds.eraseIdx j)))))) :
    EW Γ (tBM K "list" rPopAt (tVar l) (tCons te tNil)) ρ Φ := fun σ G H Q k q => by
  obtain ⟨a, xs, g0, g1, _⟩ := k.lst h0
  refine ⟨_, g0, .inl ⟨rfl, _, SqL.of g1⟩, ?_⟩
  refine h σ G H _ k fun d ρ1 v G1 H1 e1 k1 r1 ⟨i, ds, j, y, hd, hl, hb, hj, hy, p⟩ => ?_
  subst hd
  cases r1
  obtain ⟨a', xs', h1, q1, q2⟩ := k1.lst hl
  rw [g0] at h1
  cases h1
  obtain ⟨u, hu, ru⟩ := q2.getD hy
  exact ⟨a, xs', i, j, u, rfl, rfl, q1, hb.1, hb.2, by rw [q2.length]; exact hj, hu, q _ _ _ G1 _ e1 (k1.mut hl g0 (.lst (q2.eraseIdx j))) ru p⟩
/-- x.pop() -/
theorem ew_pop0O {K : PySem.W.Frag} {l : Nat} {ds : List D} {y : D} (h0 : ρ[l]? = some (some (.ow (.lst ds)))) (hy : ds[ds.length - 1]? = some y) (p : Φ y (ρ.set l (some (.ow (.lst ds.dropLast))))) : EW Γ (tBM0 K "list" rPop (tVar l)) ρ Φ := fun σ G H Q k q => by
  obtain ⟨a, xs, g0, g1, g2⟩ := k.lst h0
  refine ⟨_, g0, .inl ⟨rfl, _, SqL.of g1⟩, ?_⟩
  obtain ⟨u, hu, ru⟩ := g2.getD hy
  refine ⟨a, xs, u, rfl, rfl, g1, by rw [g2.length]; exact hu, q _ _ _ G _ (Ex.refl G) (k.mut h0 g0 (.lst ?_)) ru p⟩
  rw [List.dropLast_eq_take, List.dropLast_eq_take, g2.length]
  exact g2.take _
/-- x.insert(e, f) -/
theorem sw_ins {K : PySem.W.Frag} {l : Nat} {ds0 : List D} (h0 : ρ[l]? = some (some (.ow (.lst ds0)))) (h : AW Γ ta' ρ fun es ρ1 => ∃ i y ds, es = [.int i, y] ∧ ρ1[l]? = some (some (.ow (.lst ds))) ∧ ds.length < 100000 ∧ (0 ≤ i ∧ i < 2 ^ 63) ∧ Δ.nx (ρ1.set l (some (.ow (.lst (ds.take i.toNat ++ [y] ++ ds.drop i.toNat)))))) :
    SW Γ (tDrop (tBM K "list" (fun x vs H Q => ∃ (l : Addr) (xs : List V) (i : Int) (y : V), x = .ref l ∧ vs = [.int i, y] ∧ H l = some (.lst xs) ∧ xs.length < sizeLine ∧ 0 ≤ i ∧ i < 2 ^ 63 ∧ Q .non (upd H l (.lst (xs.take i.toNat ++ [y] ++ xs.drop i.toNat)))) (tVar l) ta')) ρ Δ := fun σ G H D k hn hr hb hc => by
  obtain ⟨a, xs, g0, g1, _⟩ := k.lst h0
  refine ⟨_, g0, .inl ⟨rfl, _, SqL.of g1⟩, ?_⟩
  refine h σ G H _ k fun es ρ1 vs G1 H1 e1 k1 r1 ⟨i, y, ds, he, hl, hz, hb, p⟩ => ?_
  subst he
  cases r1 with
  | cons r1 r2 => cases r2 with
    | cons r2 r3 =>
      cases r3
      cases r1
      obtain ⟨a', xs', h1, q1, q2⟩ := k1.lst hl
      rw [g0] at h1
      cases h1
      exact ⟨a, xs', i, _, rfl, rfl, q1, by rw [q2.length]; exact Evl.sz_lt hz, hb.1, hb.2, hn _ σ G1 _ e1 (k1.mut hl g0 (.lst (((q2.take _).append (.cons r2 .nil)).append (q2.drop _)))) p⟩
/-! ### for over zip -/
theorem sw_forZ {g : TG} {K : PySem.W.Frag} (hK : K = Γ.K) (h : AW Γ ta' ρ fun es ρ1 => ∃ xs ys, (es = [.lst xs, .lst ys] ∨ es = [.tup xs, .tup ys]) ∧ xs.length = ys.length ∧ ∃ J : Nat → Env → Prop, J 0 ρ1 ∧ (∀ i x y ρ2, xs[i]? = some x → ys[i]? = some y → J i ρ2 → Turn1 Γ g ts Δ (.tup [x, y]) ρ2 (J (i + 1))) ∧ ∀ ρ2, J xs.length ρ2 → Δ.nx ρ2) :
    SW Γ (tFor (RZ.iZipA K ta') g ts) ρ Δ := fun σ G H D k hn hr hb hc =>
  h σ G H _ k fun es ρ1 vs G1 H1 e1 k1 r1 ⟨xs, ys, he, hl, J, i0, is, id⟩ => by
    subst hK
    have new : ∀ {G2 H2 σ2 ρ2 T u w}, Ok Γ G2 H2 σ2 ρ2 → H2 T = none → ∃ G3, Ok Γ G3 (upd H2 T (.tup [u, w])) σ2 ρ2 ∧ Ex G2 G3 ∧ G3 T = some (.tup [u, w]) := fun k hT => by
      obtain ⟨k2, e2⟩ := k.new (o := _) hT
      exact ⟨_, k2, e2, upd_same⟩
    rcases he with rfl | rfl
    · cases r1 with
      | cons r1 r2 => cases r2 with
        | cons r2 r3 =>
          cases r3
          cases r1 with
          | @lst a us _ hq hs => cases r2 with
            | @lst b ws _ hq' hs' =>
              refine ⟨a, b, us, ws, rfl, .inl ⟨seq_of k1.gh hq, seq_of k1.gh hq', ?_⟩⟩
              refine RZ.for_zipL (xs := us) (ys := ws) (by rw [hs.length, hs'.length]; exact hl) (fun i σ H => ∃ G ρ2, Ex G1 G ∧ Ok Γ G H σ ρ2 ∧ J i ρ2) ⟨G1, ρ1, Ex.refl _, k1, i0⟩ (fun i σ H ⟨G2, ρ2, e2, k2, p2⟩ => ⟨seq_of (e2.trans k2.gh) hq, seq_of (e2.trans k2.gh) hq'⟩) (fun i u w T σ H hu hw ⟨G2, ρ2, e2, k2, p2⟩ hT => ?_) (fun σ H ⟨G2, ρ2, e2, k2, p2⟩ => hn ρ2 σ G2 H (e1.trans e2) k2 (id ρ2 (by rw [← hs.length]; exact p2)))
              obtain ⟨x, hx, rx⟩ := hs.get hu
              obtain ⟨y, hy, ry⟩ := hs'.get hw
              obtain ⟨G3, k3, e3, hT3⟩ := new (u := u) (w := w) k2 hT
              have e23 := e2.trans e3
              exact (is i x y ρ2 hx hy p2).run k3 e1 e23 (.tup (SqT.of hT3) (.cons (rx.mono e23) (.cons (ry.mono e23) .nil))) hn hr fun _ _ h => h
    · cases r1 with
      | cons r1 r2 => cases r2 with
        | cons r2 r3 =>
          cases r3
          cases r1 with
          | @tup a us _ hq hs => cases r2 with
            | @tup b ws _ hq' hs' =>
              refine ⟨a, b, us, ws, rfl, .inr ⟨sq_up k1.gh hq, sq_up k1.gh hq', ?_⟩⟩
              refine RZ.for_zipT (xs := us) (ys := ws) (by rw [hs.length, hs'.length]; exact hl) (fun i σ H => ∃ G ρ2, Ex G1 G ∧ Ok Γ G H σ ρ2 ∧ J i ρ2) ⟨G1, ρ1, Ex.refl _, k1, i0⟩ (fun i σ H ⟨G2, ρ2, e2, k2, p2⟩ => ⟨sq_up (e2.trans k2.gh) hq, sq_up (e2.trans k2.gh) hq'⟩) (fun i u w T σ H hu hw ⟨G2, ρ2, e2, k2, p2⟩ hT => ?_) (fun σ H ⟨G2, ρ2, e2, k2, p2⟩ => hn ρ2 σ G2 H (e1.trans e2) k2 (id ρ2 (by rw [← hs.length]; exact p2)))
              obtain ⟨x, hx, rx⟩ := hs.get hu
              obtain ⟨y, hy, ry⟩ := hs'.get hw
              obtain ⟨G3, k3, e3, hT3⟩ := new (u := u) (w := w) k2 hT
              have e23 := e2.trans e3
              exact (is i x y ρ2 hx hy p2).run k3 e1 e23 (.tup (SqT.of hT3) (.cons (rx.mono e23) (.cons (ry.mono e23) .nil))) hn hr fun _ _ h => h
/-! ### min, max, in -/
theorem cbv_max2 {i j : Int} : CbV Γ (fun xs H Q => ∃ i j, xs = [.int i, .int j] ∧ Q (.int (if j > i then j else i)) H) [.int i, .int j] (.int (max i j)) := fun G H vs Q e r q => by
  cases r with
  | cons r r' => cases r' with
    | cons r' r'' =>
      cases r''
      cases r
      cases r'
      refine ⟨i, j, rfl, ?_⟩
      have e : (if j > i then j else i) = max i j := by omega
      rw [e]
      exact q _ (.int _)
theorem cbv_min2 {i j : Int} : CbV Γ (fun xs H Q => ∃ i j, xs = [.int i, .int j] ∧ Q (.int (if j < i then j else i)) H) [.int i, .int j] (.int (min i j)) := fun G H vs Q e r q => by
  cases r with
  | cons r r' => cases r' with
    | cons r' r'' =>
      cases r''
      cases r
      cases r'
      refine ⟨i, j, rfl, ?_⟩
      have e : (if j < i then j else i) = min i j := by omega
      rw [e]
      exact q _ (.int _)
/-! ### x[i] op= e, x an own list of integers at that place -/
theorem sw_augO {l : Nat} {ti : TE} {ds0 : List D} {f : Int → Int → Int} {K : PySem.W.Frag} (hK : K = Γ.K) (h0 : ρ[l]? = some (some (.ow (.lst ds0)))) (h : EW Γ ti ρ fun i ρ1 => ∃ n ds j x, i = .int n ∧ ρ1[l]? = some (some (.ow (.lst ds))) ∧ ixN ds.length n = some j ∧ ds[j]? = some (.int x) ∧
    EW Γ te ρ1 fun y ρ2 => ∃ b ds', y = .int b ∧ ρ2[l]? = some (some (.ow (.lst ds'))) ∧ ds'.length = ds.length ∧ Δ.nx (ρ2.set l (some (.ow (.lst (ds'.set j (.int (f x b)))))))) : SW Γ (tAugS (tVar l) ti te (rIxL K) (ipI f) rSetL) ρ Δ := fun σ G H D k hn hr hb hc => by
  subst hK
  obtain ⟨a, xs, g0, g1, _⟩ := k.lst h0
  refine ⟨_, g0, ?_⟩
  refine h σ G H _ k fun i ρ1 vi G1 H1 e1 k1 r1 ⟨n, ds, j, x, hi, hl, hj, hx, h2⟩ => ?_
  subst hi
  cases r1
  obtain ⟨a', xs', h1, q1, q2⟩ := k1.lst hl
  rw [g0] at h1
  cases h1
  obtain ⟨u, hu, ru⟩ := q2.getD hx
  cases ru
  have hat : atI xs' n = some (V.int x) := by
    show (ixN xs'.length n).bind _ = _
    rw [q2.length, hj]
    exact hu
  refine ⟨a, xs', n, _, rfl, rfl, SqL.of q1, hat, ?_⟩
  refine h2 σ G1 H1 _ k1 fun y ρ2 vy G2 H2 e2 k2 r2 ⟨b, ds', hy, hl2, hd, p⟩ => ?_
  subst hy
  cases r2
  obtain ⟨a2, xs2, h2', q3, q4⟩ := k2.lst hl2
  rw [g0] at h2'
  cases h2'
  exact ⟨x, b, rfl, rfl, a, xs2, n, j, rfl, rfl, q3, by rw [q4.length, hd]; exact hj, hn _ σ G2 _ (e1.trans e2) (k2.mut hl2 g0 (.lst (RepL.set (.int _) j q4))) p⟩
/-! ### comprehensions that take each item to f of it -/
theorem get_take {α : Type} : ∀ {l : List α} {i : Nat} {x : α}, l[i]? = some x → l.take (i + 1) = l.take i ++ [x]
  | [], i, x, h => by simp at h
  | a :: l, 0, x, h => by
    have e : a = x := Option.some.inj h
    subst e
    rfl
  | a :: l, i + 1, x, h => by
    show a :: l.take (i + 1) = a :: l.take i ++ [x]
    rw [get_take (l := l) (i := i) (x := x) h]
    rfl
/-- what a comprehension over ds asks, that takes each item to f of it -/
def Maps (Γ : Ctx) (j : Nat) (te : TE) (ds : List D) (ρ1 : Env) (Ψ : B → Env → Prop) : Prop := (∀ es, ρ1[j]? ≠ some (some (.ow es))) ∧ ds.length ≤ 99999 ∧ ∃ f : D → D, (∀ x ∈ ds, ∀ c, EW (Γ.ext c) te (ρ1.set j (some (.fz x))) fun y ρ4 => ρ4 = ρ1.set j (some (.fz x)) ∧ y = f x) ∧ Ψ (.ow (.lst (ds.map f))) ρ1
theorem wipe_one {j : Nat} {b : Option B} : wipeE ((wipeE ρ [j]).set j b) [j] = wipeE ρ [j] := by
  show ((ρ.set j none).set j b).set j none = ρ.set j none
  rw [List.set_set, List.set_set]
theorem Maps.comp {j : Nat} {ds : List D} (h : Maps Γ j te ds ρ Ψ) : Comp Γ (gName j) [j] tYes te ds ρ Ψ := by
  obtain ⟨h1, h2, f, h3, h4⟩ := h
  refine ⟨gw_name (List.mem_singleton.mpr rfl), fun i hi es => ?_, h2, fun i acc => acc = (ds.take i).map f, rfl, fun i x acc c hx ha => ?_, fun acc ha => ?_⟩
  · rw [List.mem_singleton.mp hi]
    exact h1 es
  · subst ha
    have e0 : (wipeE ρ [j]).set j (some (.fz x)) = ρ.set j (some (.fz x)) := List.set_set ..
    refine ⟨_, gd_name, wipe_one, tw_yes ⟨rfl, fun _ => ?_, fun z => Bool.noConfusion z⟩⟩
    rw [e0]
    refine fun σ G H Q k q => h3 x (List.mem_of_getElem? hx) c σ G H Q k fun y ρ4 v G1 H1 e1 k1 r1 ⟨p1, p2⟩ => q y ρ4 v G1 H1 e1 k1 r1 ⟨p1, ?_⟩
    show (ds.take i).map f ++ [y] = (ds.take (i + 1)).map f
    rw [p2, get_take hx, List.map_append]
    rfl
  · rw [ha, List.take_length]
    exact h4
theorem eb_mapT {K : PySem.W.Frag} {te0 : TE} {j : Nat} {vs : List Nat} (hv : vs = [j]) (hK : K = Γ.K) (h : EW Γ te0 ρ fun d ρ1 => ∃ ds, d = .tup ds ∧ Maps Γ j te ds ρ1 Ψ) : EB Γ (tLc (iTup K te0) (gName j) tYes te vs) ρ Ψ := by
  subst hv
  exact eb_lcT hK fun σ G H Q k q => h σ G H Q k fun d ρ1 v G1 H1 e1 k1 r1 ⟨ds, hd, m⟩ => q d ρ1 v G1 H1 e1 k1 r1 ⟨ds, hd, m.comp⟩
theorem eb_mapL {K : PySem.W.Frag} {te0 : TE} {j : Nat} {vs : List Nat} (hv : vs = [j]) (hK : K = Γ.K) (h : EW Γ te0 ρ fun d ρ1 => ∃ ds, d = .lst ds ∧ Maps Γ j te ds ρ1 Ψ) : EB Γ (tLc (iList K te0) (gName j) tYes te vs) ρ Ψ := by
  subst hv
  exact eb_lcL hK fun σ G H Q k q => h σ G H Q k fun d ρ1 v G1 H1 e1 k1 r1 ⟨ds, hd, m⟩ => q d ρ1 v G1 H1 e1 k1 r1 ⟨ds, hd, m.comp⟩
theorem eb_mapR {j : Nat} {vs : List Nat} (hv : vs = [j]) (h : AW Γ ta' ρ fun ds ρ1 => ∃ n : Int, ds = [.int n] ∧ -100 ≤ n ∧ Maps Γ j te (rngD n.toNat) ρ1 Ψ) : EB Γ (tLc (iRng1 ta') (gName j) tYes te vs) ρ Ψ := by
  subst hv
  exact eb_lcR fun σ G H Q k q => h σ G H Q k fun d ρ1 v G1 H1 e1 k1 r1 ⟨n, hd, hn, m⟩ => q d ρ1 v G1 H1 e1 k1 r1 ⟨n, hd, hn, m.comp⟩
/-- not e, e no truth value -/
theorem ew_notT {K : PySem.W.Frag} (hK : K = Γ.K) (h : EW Γ ta ρ fun d ρ1 => ∃ b, truD d = some b ∧ Φ (.bl (!b)) ρ1) : EW Γ (tNotT K ta) ρ Φ := fun σ G H Q k q => tw_tru (Θ := fun b ρ1 => Φ (.bl (!b)) ρ1) hK h σ G H (fun b H' => Q (.bl (!b)) H') k fun b ρ1 G1 H1 e1 k1 p => q _ ρ1 _ G1 H1 e1 k1 (.bl _) p
theorem cbv_allM {α : Type} {K : PySem.W.Frag} {xs : List α} {f : α → Bool} (hK : K = Γ.K) : CbV Γ (rAll K) [.lst (xs.map fun x => D.bl (f x))] (.bl (xs.all f)) := by
  have e : (xs.map fun x => D.bl (f x)) = (xs.map f).map D.bl := by rw [List.map_map]; rfl
  have e2 : xs.all f = (xs.map f).all id := by rw [List.all_map]; rfl
  rw [e, e2]
  exact cbv_all hK
theorem cbv_anyM {α : Type} {K : PySem.W.Frag} {xs : List α} {f : α → Bool} (hK : K = Γ.K) : CbV Γ (rAny K) [.lst (xs.map fun x => D.bl (f x))] (.bl (xs.any f)) := by
  have e : (xs.map fun x => D.bl (f x)) = (xs.map f).map D.bl := by rw [List.map_map]; rfl
  have e2 : xs.any f = (xs.map f).any id := by rw [List.any_map]; rfl
  rw [e, e2]
  exact cbv_any hK
theorem cbv_sumM {α : Type} {K : PySem.W.Frag} {xs : List α} {f : α → Int} (hK : K = Γ.K) : CbV Γ (rSum K) [.lst (xs.map fun x => D.int (f x))] (.int (xs.map f).sum) := by
  have e : (xs.map fun x => D.int (f x)) = (xs.map f).map D.int := by rw [List.map_map]; rfl
  rw [e]
  exact cbv_sum hK
theorem KE.ext {Ξ : Addr → Str → D → Prop} {E : XK} {c : Addr × HO} (k : KE Γ Ξ E) : KE (Γ.ext c) Ξ E := fun C f v d dd σ' ρ' G' H' ok x r xi => k C f v d dd σ' ρ' G' H' ok.unext ⟨x.at_, x.nf, fun p hp => x.nx p (List.mem_cons_of_mem _ hp), x.nh⟩ r xi
/-! ### in -/
def flatD : D → Bool
  | .non => true | .bl _ => true | .int _ => true | .str _ => true
  | _ => false
def toV : D → V
  | .bl b => .bl b | .int i => .int i | .str x => .str x
  | _ => .non
/-- == of flat data -/
def eqF : D → D → Bool
  | .non, .non => true
  | .bl a, .bl b => a == b
  | .bl a, .int b => (if a then 1 else 0) == b
  | .int a, .bl b => a == (if b then 1 else 0)
  | .int a, .int b => a == b
  | .str a, .str b => a == b
  | _, _ => false
theorem flat_rep {K : PySem.W.Frag} {G : Hp} {v : V} {d : D} (r : Rep K G v d) (h : flatD d = true) : v = toV d := by
  cases r <;> first | rfl | cases h
theorem flat_reps {K : PySem.W.Frag} {G : Hp} : ∀ {vs : List V} {ds : List D}, RepL K G vs ds → ds.all flatD = true → vs = ds.map toV
  | _, _, .nil, _ => rfl
  | _, _, .cons r rs, h => by
    rw [List.all_cons, Bool.and_eq_true] at h
    rw [flat_rep r h.1, flat_reps rs h.2]
    rfl
theorem flat_v {d : D} (h : flatD d = true) : flatV (toV d) = true := by cases d <;> first | rfl | cases h
theorem eqV_to {a b : D} (ha : flatD a = true) (hb : flatD b = true) : eqV (toV a) (toV b) = eqF a b := by
  cases a <;> first | (cases ha; done) | skip
  all_goals cases b <;> first | rfl | cases hb
theorem inV_to {x : D} {ys : List D} (hx : flatD x = true) (hy : ys.all flatD = true) : inV (toV x) (ys.map toV) = ys.any fun y => eqF y x := by
  unfold inV
  induction ys with
  | nil => rfl
  | cons y ys ih =>
    rw [List.all_cons, Bool.and_eq_true] at hy
    rw [List.map_cons, List.any_cons, List.any_cons, ih hy.2, eqV_to hy.1 hx]
theorem all_flat {ys : List D} (hy : ys.all flatD = true) : (ys.map toV).all flatV = true := by
  induction ys with
  | nil => rfl
  | cons y ys ih =>
    rw [List.all_cons, Bool.and_eq_true] at hy
    rw [List.map_cons, List.all_cons, flat_v hy.1, ih hy.2]
    rfl
theorem opv_inT {K : PySem.W.Frag} {n : Bool} {x : D} {ys : List D} (hK : K = Γ.K) (hx : flatD x = true) (hy : ys.all flatD = true) : OpV Γ (rIn K n) x (.tup ys) (.bl (if n then !(ys.any fun y => eqF y x) else ys.any fun y => eqF y x)) := fun G H vx vy Q e rx ry q => by
  subst hK
  cases ry with
  | @tup a vs _ hq hs =>
    have e1 := flat_rep rx hx
    have e2 := flat_reps hs hy
    subst e1 e2
    exact ⟨a, _, rfl, .inr (sq_up e hq), flat_v hx, all_flat hy, by rw [inV_to hx hy]; exact q _ (.bl _)⟩
theorem opv_inL {K : PySem.W.Frag} {n : Bool} {x : D} {ys : List D} (hK : K = Γ.K) (hx : flatD x = true) (hy : ys.all flatD = true) : OpV Γ (rIn K n) x (.lst ys) (.bl (if n then !(ys.any fun y => eqF y x) else ys.any fun y => eqF y x)) := fun G H vx vy Q e rx ry q => by
  subst hK
  cases ry with
  | @lst a vs _ hq hs =>
    have e1 := flat_rep rx hx
    have e2 := flat_reps hs hy
    subst e1 e2
    exact ⟨a, _, rfl, .inl (seq_of e hq), flat_v hx, all_flat hy, by rw [inV_to hx hy]; exact q _ (.bl _)⟩
/-! ### comprehensions over pairs -/
def Maps2 (Γ : Ctx) (i j : Nat) (te : TE) (ds : List D) (ρ1 : Env) (Ψ : B → Env → Prop) : Prop := (∀ es, ρ1[i]? ≠ some (some (.ow es))) ∧ (∀ es, ρ1[j]? ≠ some (some (.ow es))) ∧ ds.length ≤ 99999 ∧ ∃ f : D → D,
  (∀ x ∈ ds, ∃ a b, x = .tup [a, b] ∧ ∀ c, EW (Γ.ext c) te ((ρ1.set i (some (.fz a))).set j (some (.fz b))) fun y ρ4 => ρ4 = (ρ1.set i (some (.fz a))).set j (some (.fz b)) ∧ y = f x) ∧ Ψ (.ow (.lst (ds.map f))) ρ1
theorem set_two {i j : Nat} (hij : i ≠ j) {a b : Option B} : ((wipeE ρ [i, j]).set i a).set j b = (ρ.set i a).set j b := by
  show ((((ρ.set j none).set i none).set i a).set j b) = _
  rw [List.set_set, List.set_comm _ _ hij.symm, List.set_set]
theorem wipe_two {i j : Nat} (hij : i ≠ j) {a b : Option B} : wipeE ((ρ.set i a).set j b) [i, j] = wipeE ρ [i, j] := by
  show (((ρ.set i a).set j b).set j none).set i none = (ρ.set j none).set i none
  rw [List.set_set, List.set_comm _ _ hij.symm, List.set_comm _ _ hij, List.set_comm _ _ hij.symm, List.set_set, List.set_comm _ _ hij]
theorem Maps2.comp {K : PySem.W.Frag} {i j n : Nat} {ds : List D} (hK : K = Γ.K) (hn : n = 2) (hij : i ≠ j) (h : Maps2 Γ i j te ds ρ Ψ) : Comp Γ (gTup K n (gCons (gName i) (gCons (gName j) gNil))) [i, j] tYes te ds ρ Ψ := by
  subst hn
  obtain ⟨h0, h1, h2, f, h3, h4⟩ := h
  refine ⟨gw_tup (is := [i, j]) rfl fun a ha => ha, fun l hl es => ?_, h2, fun i acc => acc = (ds.take i).map f, rfl, fun l x acc c hx ha => ?_, fun acc ha => ?_⟩
  · rcases List.mem_cons.mp hl with rfl | hl
    · exact h0 es
    · rw [List.mem_singleton.mp hl]
      exact h1 es
  · subst ha
    obtain ⟨a, b, rfl, h5⟩ := h3 x (List.mem_of_getElem? hx)
    have e0 := set_two (ρ := ρ) hij (a := some (.fz a)) (b := some (.fz b))
    refine ⟨_, gd_tup (is := [i, j]) hK rfl rfl rfl, ?_, tw_yes ⟨rfl, fun _ => ?_, fun z => Bool.noConfusion z⟩⟩
    · show wipeE (((wipeE ρ [i, j]).set i _).set j _) [i, j] = _
      rw [e0]
      exact wipe_two hij
    · show EW (Γ.ext c) te (((wipeE ρ [i, j]).set i _).set j _) _
      have e1 : sets (wipeE ρ [i, j]) [i, j] [a, b] = (ρ.set i (some (.fz a))).set j (some (.fz b)) := e0
      rw [e0]
      refine fun σ G H Q k q => h5 c σ G H Q k fun y ρ4 v G1 H1 e1' k1 r1 ⟨p1, p2⟩ => q y ρ4 v G1 H1 e1' k1 r1 ⟨p1.trans e1.symm, ?_⟩
      show (ds.take l).map f ++ [y] = (ds.take (l + 1)).map f
      rw [p2, get_take hx, List.map_append]
      rfl
  · rw [ha, List.take_length]
    exact h4
theorem eb_map2T {K K' : PySem.W.Frag} {te0 : TE} {i j n : Nat} {vs : List Nat} (hv : vs = [i, j]) (hK : K = Γ.K) (hK' : K' = Γ.K) (hn : n = 2) (hij : i ≠ j) (h : EW Γ te0 ρ fun d ρ1 => ∃ ds, d = .tup ds ∧ Maps2 Γ i j te ds ρ1 Ψ) : EB Γ (tLc (iTup K te0) (gTup K' n (gCons (gName i) (gCons (gName j) gNil))) tYes te vs) ρ Ψ := by
  subst hv
  exact eb_lcT hK fun σ G H Q k q => h σ G H Q k fun d ρ1 v G1 H1 e1 k1 r1 ⟨ds, hd, m⟩ => q d ρ1 v G1 H1 e1 k1 r1 ⟨ds, hd, m.comp hK' hn hij⟩
theorem eb_map2L {K K' : PySem.W.Frag} {te0 : TE} {i j n : Nat} {vs : List Nat} (hv : vs = [i, j]) (hK : K = Γ.K) (hK' : K' = Γ.K) (hn : n = 2) (hij : i ≠ j) (h : EW Γ te0 ρ fun d ρ1 => ∃ ds, d = .lst ds ∧ Maps2 Γ i j te ds ρ1 Ψ) : EB Γ (tLc (iList K te0) (gTup K' n (gCons (gName i) (gCons (gName j) gNil))) tYes te vs) ρ Ψ := by
  subst hv
  exact eb_lcL hK fun σ G H Q k q => h σ G H Q k fun d ρ1 v G1 H1 e1 k1 r1 ⟨ds, hd, m⟩ => q d ρ1 v G1 H1 e1 k1 r1 ⟨ds, hd, m.comp hK' hn hij⟩
/-! ### [..] * n -/
theorem RepL.flat {K : PySem.W.Frag} {G : Hp} {vs : List V} {ds : List D} (r : RepL K G vs ds) : ∀ n : Nat, RepL K G (List.replicate n vs).flatten (List.replicate n ds).flatten
  | 0 => .nil
  | n + 1 => by
    rw [List.replicate_succ, List.replicate_succ, List.flatten_cons, List.flatten_cons]
    exact r.append (r.flat n)
theorem eb_rep (h : AW Γ ta' ρ fun ds ρ1 => ds.length ≤ 1000 ∧ ∀ c, EW (Γ.ext c) tb ρ1 fun d ρ2 => ∃ k : Int, d = .int k ∧ (-1000000 ≤ k ∧ k ≤ 1000000) ∧ ds.length * k.toNat ≤ 100000 ∧ Ψ (.ow (.lst (List.replicate k.toNat ds).flatten)) ρ2) : EB Γ (tOp rRep (tLst ta') tb) ρ Ψ := fun σ G H Q k q =>
  h σ G H _ k fun ds ρ1 vs G1 H1 e1 k1 r1 ⟨hl, h2⟩ => ⟨Evl.sz_of (by rw [r1.length]; omega), fun p hp => by
    have k2 := k1.newO (o := .lst vs) hp
    have b := br_new k1 hp r1
    obtain ⟨⟨_, _, ep, _, _, gp, fp, _⟩, b2⟩ := b
    cases ep
    refine h2 (p, .lst vs) σ G1 _ _ (k2.ext upd_same gp fp (b2 _ rfl _ rfl).1) fun d ρ2 v G2 H2 e2 k3 r2 ⟨n, hd, hn, hz, ps⟩ => ?_
    subst hd
    cases r2
    have at_ := (k3.cel (p, .lst vs) List.mem_cons_self).1
    refine ⟨p, n, vs, rfl, rfl, at_, by omega, by omega, Evl.sz_of (by rw [r1.length]; exact hz), fun c hc => ?_⟩
    exact q _ ρ2 _ _ _ (e1.trans e2) (k3.unext.newO hc) (br_new k3.unext hc ((r1.mono e2).flat _)) ps⟩
theorem flat_rep1 {n : Nat} {d : D} : (List.replicate n [d]).flatten = List.replicate n d := by
  induction n with
  | zero => rfl
  | succ n ih => rw [List.replicate_succ, List.flatten_cons, ih, List.replicate_succ]; rfl
theorem gd_pair {K : PySem.W.Frag} {n : Nat} {g1 g2 : TG} {a b : D} {ρ1 ρ2 : Env} (hK : K = Γ.K) (hn : n = 2) (h1 : GD Γ g1 a ρ ρ1) (h2 : GD Γ g2 b ρ1 ρ2) : GD Γ (gTup K n (gCons g1 (gCons g2 gNil))) (.tup [a, b]) ρ ρ2 := fun σ G H v Q k r q => by
  subst hK
  subst hn
  cases r with
  | tup hq hs => cases hs with
    | cons ra hs => cases hs with
      | cons rb hs =>
        cases hs
        exact ⟨_, _, rfl, sq_up k.gh hq, rfl, _, _, rfl, h1 σ G H _ _ k ra fun σ' k' => ⟨_, _, rfl, h2 σ' G H _ _ k' rb fun σ'' k'' => ⟨rfl, q σ'' k''⟩⟩⟩
theorem ints_at {S : List Int} {j : Nat} (h : j < S.length) : (S.map D.int)[j]? = some (.int (S.getD j 0)) := by
  rw [List.getElem?_map, List.getElem?_eq_getElem h, List.getD_eq_getElem?_getD, List.getElem?_eq_getElem h]
  rfl
theorem ixN_of {m : Nat} {n : Int} (h0 : 0 ≤ n) (h : n < m) : ixN m n = some n.toNat := by
  unfold ixN
  rw [if_pos h0, if_pos h]
/-- x[i] op= e, x an own list of integers; i and e leave the slots as they are -/
theorem sw_augI {l : Nat} {ti : TE} {S : List Int} {f : Int → Int → Int} {K : PySem.W.Frag} (hK : K = Γ.K) (h0 : ρ[l]? = some (some (.ow (.lst (S.map D.int))))) (h : EW Γ ti ρ fun i ρ1 => ∃ n, i = .int n ∧ ρ1 = ρ ∧ 0 ≤ n ∧ n < S.length ∧
    EW Γ te ρ fun y ρ2 => ∃ b, y = .int b ∧ ρ2 = ρ ∧ Δ.nx (ρ.set l (some (.ow (.lst ((S.set n.toNat (f (S.getD n.toNat 0) b)).map D.int)))))) : SW Γ (tAugS (tVar l) ti te (rIxL K) (ipI f) rSetL) ρ Δ :=
  sw_augO hK h0 fun σ G H Q k q => h σ G H Q k fun i ρ1 v G1 H1 e1 k1 r1 ⟨n, hi, hρ, n0, n1, h2⟩ => q i ρ1 v G1 H1 e1 k1 r1 ⟨n, S.map D.int, n.toNat, S.getD n.toNat 0, hi, by rw [hρ]; exact h0, by rw [List.length_map]; exact ixN_of n0 n1, ints_at (by omega), by
    subst hρ
    exact fun σ G H Q k q => h2 σ G H Q k fun y ρ2 v G1 H1 e1 k1 r1 ⟨b, hy, hρ2, p⟩ => q y ρ2 v G1 H1 e1 k1 r1 ⟨b, S.map D.int, hy, by rw [hρ2]; exact h0, rfl, by
      subst hρ2
      rw [List.map_set] at p
      exact p⟩⟩
theorem opv_ixI {K : PySem.W.Frag} {S : List Int} {n : Int} (hK : K = Γ.K) (h0 : 0 ≤ n) (h : n < S.length) : OpV Γ (rIxT K) (.tup (S.map D.int)) (.int n) (.int (S.getD n.toNat 0)) := opv_ixT hK (by
  unfold atI
  rw [List.length_map, ixN_of h0 h]
  exact ints_at (by omega))
theorem opv_ixIL {K : PySem.W.Frag} {S : List Int} {n : Int} (hK : K = Γ.K) (h0 : 0 ≤ n) (h : n < S.length) : OpV Γ (rIxL K) (.lst (S.map D.int)) (.int n) (.int (S.getD n.toNat 0)) := opv_ixL hK (by
  unfold atI
  rw [List.length_map, ixN_of h0 h]
  exact ints_at (by omega))
/-- x[i] of an own list of integers -/
theorem ew_ixIO {K : PySem.W.Frag} {l : Nat} {S : List Int} (hK : K = Γ.K) (h0 : ρ[l]? = some (some (.ow (.lst (S.map D.int))))) (h : EW Γ te ρ fun i ρ1 => ∃ n, i = .int n ∧ ρ1 = ρ ∧ 0 ≤ n ∧ n < S.length ∧ Φ (.int (S.getD n.toNat 0)) ρ) : EW Γ (tOp (rIxL K) (tVar l) te) ρ Φ :=
  ew_ixO hK h0 fun σ G H Q k q => h σ G H Q k fun i ρ1 v G1 H1 e1 k1 r1 ⟨n, hi, hρ, n0, n1, p⟩ => q i ρ1 v G1 H1 e1 k1 r1 ⟨n, S.map D.int, .int (S.getD n.toNat 0), hi, by rw [hρ]; exact h0, by
    unfold atI
    rw [List.length_map, ixN_of n0 n1]
    exact ints_at (by omega), by rw [hρ]; exact p⟩
/-- x[i] = e, x an own list of integers; i and e leave the slots as they are -/
theorem sw_setI {l : Nat} {ti : TE} {S : List Int} (h0 : ρ[l]? = some (some (.ow (.lst (S.map D.int))))) (h : EW Γ te ρ fun y ρ1 => ∃ b, y = .int b ∧ ρ1 = ρ ∧ EW Γ ti ρ fun i ρ2 => ∃ n, i = .int n ∧ ρ2 = ρ ∧ 0 ≤ n ∧ n < S.length ∧ Δ.nx (ρ.set l (some (.ow (.lst ((S.set n.toNat b).map D.int)))))) : SW Γ (tAsg te (gSub (tVar l) ti rSetL)) ρ Δ :=
  sw_setO h0 fun σ G H Q k q => h σ G H Q k fun y ρ1 v G1 H1 e1 k1 r1 ⟨b, hy, hρ, h2⟩ => q y ρ1 v G1 H1 e1 k1 r1 (by
    subst hρ
    exact fun σ G H Q k q => h2 σ G H Q k fun i ρ2 v G1 H1 e1 k1 r1 ⟨n, hi, hρ2, n0, n1, p⟩ => q i ρ2 v G1 H1 e1 k1 r1 ⟨n, n.toNat, S.map D.int, hi, h0, by rw [hρ2]; exact h0, by rw [List.length_map]; exact ixN_of n0 n1, by
      subst hρ2
      rw [hy]
      rw [List.map_set] at p
      exact p⟩)
end
end Dl

/-! Dn: max and min of tuples, calls with keywords in any order -/
namespace L2
open PySem PySem.Spec PyProof.Rows
abbrev rLenS (K : PySem.W.Frag) : List V → Hp → VK → Prop := fun xs H Q => ∃ p ys, xs = [.ref p] ∧ (SqL K H p ys ∨ SqT K H p ys) ∧ Q (.int ys.length) H
abbrev rListOf (K : PySem.W.Frag) : List V → Hp → VK → Prop := fun xs H Q => ∃ p ys, xs = [.ref p] ∧ (SqL K H p ys ∨ SqT K H p ys) ∧ ∀ l, H l = none → Q (.ref l) (upd H l (.lst ys))
abbrev rTupOf (K : PySem.W.Frag) : List V → Hp → VK → Prop := fun xs H Q => ∃ p ys, xs = [.ref p] ∧ ((SqL K H p ys ∧ ∀ l, H l = none → Q (.ref l) (upd H l (.tup ys))) ∨ (SqT K H p ys ∧ Q (.ref p) H))
section
variable {X : Cx}
def rMaxT (K : PySem.W.Frag) : List V → Hp → VK → Prop := fun vs H Q => ∃ (a : Addr) (ns : List Int), vs = [V.ref a] ∧ SqT K H a (ns.map V.int) ∧ 0 < ns.length ∧ ∀ m, m ∈ ns → (∀ y, y ∈ ns → y ≤ m) → Q (.int m) H
def rMinT (K : PySem.W.Frag) : List V → Hp → VK → Prop := fun vs H Q => ∃ (a : Addr) (ns : List Int), vs = [V.ref a] ∧ SqT K H a (ns.map V.int) ∧ 0 < ns.length ∧ ∀ m, m ∈ ns → (∀ y, y ∈ ns → m ≤ y) → Q (.int m) H
theorem iter_tupI {prog : Program} {w : World} {A : Around} {E : Value → Shared → Prop} {s : Shared} {l : Addr} {items : Array Value} {Q : Value → Shared → Prop} (hl : s.heap.IsTuple l items)
    (h : ∀ s₂ : Shared, s₂ = { s with heap := s.heap.push { cls := .type "tuple_iterator", data := .fields #[.ref l, .int 0 0] } } →
      (s₂.heap.IsTupleIter s.heap.objs.size l 0 ∧ s₂.heap.IsTuple l items) → (∀ b ∈ [s.heap.objs.size, l], b < s₂.heap.objs.size) → l ≠ s.heap.objs.size → Q (.ref s.heap.objs.size) s₂) : wpAny (model prog w) A (pyIter (.ref l)) Q E s := by
  have hlt : l < s.heap.objs.size := by obtain ⟨_, e, _⟩ := hl; exact Heap.lt_size e
  refine wpAny_pyIter_tuple hl (h _ rfl ⟨⟨_, Heap.get?_push_size _ rfl, rfl, rfl⟩, hl.at fun o e => Heap.get?_push_of_some _ e⟩ (fun b hb => ?_) (Nat.ne_of_lt hlt))
  show b < (s.heap.push _).objs.size
  rw [Heap.size_push]
  rcases List.mem_cons.mp hb with rfl | hb
  · exact Nat.lt_succ_self _
  · rw [List.mem_singleton.mp hb]
    exact Nat.lt_succ_of_lt hlt
theorem old_keptT {s : Shared} {l : Addr} {h' : Heap} (hk : ∀ b o, b ∉ [s.heap.objs.size] → (s.heap.push { cls := .type "tuple_iterator", data := .fields #[.ref l, .int 0 0] }).get? b = some o → h'.get? b = some o) :
    ∀ b o, s.heap.get? b = some o → h'.get? b = some o := fun b o e => by
  refine hk b o (fun hm => ?_) (Heap.get?_push_of_some _ e)
  rcases List.mem_cons.mp hm with e1 | hm
  · exact absurd (e1 ▸ Heap.lt_size e) (Nat.lt_irrefl _)
  · cases hm
theorem cr_maxT (hc : X.calm = true) : CallR X (.builtin "max") (rMaxT X.K) := by
  intro pins s σ H vs us Q I r h
  obtain ⟨a, ns, rfl, hs, hne, q⟩ := h
  obtain ⟨its, rv, hl, _⟩ := I.tuple hs
  rw [Vals.ref1 r]
  have hi := rv.ints
  obtain ⟨xs, e⟩ := hi.allInts.items
  have hn : numsOf (intItems xs).toList = ns := by rw [← e]; exact hi.numsOf
  rw [nums_intItems] at hn
  subst hn
  have ht : s.heap.IsTuple a its.toArray := hl
  rw [e] at ht
  have hsz : 0 < xs.size := by simpa using hne
  refine call_max_walk (iter_tupI ht fun s₂ e st hfp hlI => ?_)
  subst e
  refine ⟨_, _, _, _, _, _, _, rfl, Walks.tuple (A := X.A.in1) (I.ok.hd hc) _ a hlI (intItems xs), st, hfp, by simpa [intItems] using hsz, CmpOf.ints_gt (numAt xs) (fun _ _ => intItems_at), fun v h' tk hP hk => ?_⟩
  obtain ⟨t, rfl⟩ := intItems_at hP
  obtain ⟨h1, h2⟩ := argBest_gt (numAt xs) ((intItems xs).size - 1)
  have hz : (intItems xs).size = xs.size := by simp [intItems]
  refine ⟨.int _, H, I.kept (old_keptT hk), ⟨_, rfl⟩, q _ ?_ fun a ha => ?_⟩
  · rw [numAt_eq]; exact PySem.getD_mem (by rw [List.length_map, Array.length_toList]; omega)
  · obtain ⟨j, hj, rfl⟩ := mem_getD ha
    rw [List.length_map, Array.length_toList] at hj
    rw [← numAt_eq]; exact h2 j (by omega)
theorem cr_minT (hc : X.calm = true) : CallR X (.builtin "min") (rMinT X.K) := by
  intro pins s σ H vs us Q I r h
  obtain ⟨a, ns, rfl, hs, hne, q⟩ := h
  obtain ⟨its, rv, hl, _⟩ := I.tuple hs
  rw [Vals.ref1 r]
  have hi := rv.ints
  obtain ⟨xs, e⟩ := hi.allInts.items
  have hn : numsOf (intItems xs).toList = ns := by rw [← e]; exact hi.numsOf
  rw [nums_intItems] at hn
  subst hn
  have ht : s.heap.IsTuple a its.toArray := hl
  rw [e] at ht
  have hsz : 0 < xs.size := by simpa using hne
  refine call_min_walk (iter_tupI ht fun s₂ e st hfp hlI => ?_)
  subst e
  refine ⟨_, _, _, _, _, _, _, rfl, Walks.tuple (A := X.A.in1) (I.ok.hd hc) _ a hlI (intItems xs), st, hfp, by simpa [intItems] using hsz, CmpOf.ints_lt (numAt xs) (fun _ _ => intItems_at), fun v h' tk hP hk => ?_⟩
  obtain ⟨t, rfl⟩ := intItems_at hP
  obtain ⟨h1, h2⟩ := argBest_lt (numAt xs) ((intItems xs).size - 1)
  have hz : (intItems xs).size = xs.size := by simp [intItems]
  refine ⟨.int _, H, I.kept (old_keptT hk), ⟨_, rfl⟩, q _ ?_ fun a ha => ?_⟩
  · rw [numAt_eq]; exact PySem.getD_mem (by rw [List.length_map, Array.length_toList]; omega)
  · obtain ⟨j, hj, rfl⟩ := mem_getD ha
    rw [List.length_map, Array.length_toList] at hj
    rw [← numAt_eq]; exact h2 j (by omega)
end
/-- the scope of a comprehension within another one's -/
def relSc (scope osc : Scope) : Scope := { scope with names := scope.names.map fun (n, k) => if (k == .free && osc.kind == .function && osc.names.lookup n == some .cell) then (n, .cell) else (n, k) }
theorem relab_eq {scope : Scope} {env : PySem.Env} : relabel scope env = relSc scope env.scope := rfl
/-! ### calls with keywords: n arguments, m keywords; perm tells where each parameter is taken from -/
def kwP {α : Type} (n m : Nat) (perm : List Nat) (us ws : List α) : List α := if us.length = n ∧ ws.length = m then perm.filterMap fun i => (us ++ ws)[i]? else []
theorem kwP_val {n m : Nat} {perm : List Nat} {vs zs : List V} {us ws : List Value} (r1 : Vals vs us) (r2 : Vals zs ws) : Vals (kwP n m perm vs zs) (kwP n m perm us ws) := by
  unfold kwP
  rw [r1.length, r2.length]
  split
  · have r := r1.append r2
    induction perm with
    | nil => exact .nil
    | cons i perm ih =>
      rw [List.filterMap_cons, List.filterMap_cons]
      cases e : (vs ++ zs)[i]? with
      | none =>
        rw [r.none_of e]
        exact ih
      | some x =>
        obtain ⟨u, hu, ru⟩ := r.get e
        rw [hu]
        exact .cons ru ih
  · exact .nil
theorem kbP {K : PySem.W.Frag} {x qual : Str} {st : Stmt} {f : Addr} {fd : FuncData} {ps ks : List Str} {n m : Nat} {perm : List Nat} (F : Fun K x qual st f fd) (hne : 0 < ps.length)
    (h : ∀ (kV doc pm : Value) (an : Option Addr) (cdv ct : Value) (us ws : List Value), us.length = n → ws.length = m → bindArgs (PySem.W.fnOf x qual (defArgs st) (defBody st) (defScope st) .none kV doc pm an cdv ct) ⟨us, ks.zip ws⟩ = pure (ps.zip (kwP n m perm us ws))) : KBinds K fd ps ks (kwP n m perm) (kwP n m perm) := by
  obtain ⟨oc, od, kV, doc, pm, an, cdv, ct, osl, rfl, lk, hcd⟩ := F.ex
  refine ⟨fun s us ws _ hl => ?_, fun r1 r2 => kwP_val r1 r2⟩
  by_cases hc : us.length = n ∧ ws.length = m
  · exact BindsTo.of_eq (h kV doc pm an cdv ct us ws hc.1 hc.2)
  · unfold kwP at hl
    rw [if_neg hc] at hl
    exact absurd hl (by simp; omega)
end L2
namespace Dl
open PySem L2
open Evl (Ex)
theorem rep_kwP {K : PySem.W.Frag} {G : Hp} {n m : Nat} {perm : List Nat} {vs zs : List V} {us ws : List D} (r1 : RepL K G vs us) (r2 : RepL K G zs ws) : RepL K G (kwP n m perm vs zs) (kwP n m perm us ws) := by
  unfold kwP
  rw [r1.length, r2.length]
  split
  · have r := r1.append r2
    induction perm with
    | nil => exact .nil
    | cons i perm ih =>
      rw [List.filterMap_cons, List.filterMap_cons]
      cases e : (vs ++ zs)[i]? with
      | none =>
        have h2 : (us ++ ws)[i]? = none := by
          rw [List.getElem?_eq_none_iff] at e ⊢
          rw [← r.length]
          exact e
        rw [h2]
        exact ih
      | some x =>
        obtain ⟨u, hu, ru⟩ := r.get e
        rw [hu]
        exact .cons ru ih
  · exact .nil
section
variable {Γ : Ctx} {ρ : Env} {te ta tb : TE} {tt : TT} {ts tu : TS} {Φ : D → Env → Prop} {Ψ : B → Env → Prop} {Θ : Bool → Env → Prop} {Δ : Fin}
theorem eb_callW {K : PySem.W.Frag} {C : Cn} {Fam : Rsc → Prop} {ts tk : TA} {E : XK} {n m : Nat} {perm : List Nat} (hK : K = Γ.K) (hF : Fam Rsc.no) (h : AW Γ ts ρ fun ds ρ1 => AW Γ tk ρ1 fun es ρ2 => C Γ.K 0 (kwP n m perm ds es) (fun b => Ψ b ρ2) NoX) : EB Γ (tCallK (SpD K Fam C) (kwP n m perm) E ts tk) ρ Ψ :=
  eb_callKP (gD := kwP n m perm) hK hF (fun r1 r2 => rep_kwP r1 r2) h
theorem ew_callW {K : PySem.W.Frag} {C : Cn} {Fam : Rsc → Prop} {ts tk : TA} {E : XK} {n m : Nat} {perm : List Nat} (hK : K = Γ.K) (hF : Fam Rsc.no) (h : AW Γ ts ρ fun ds ρ1 => AW Γ tk ρ1 fun es ρ2 => C Γ.K 0 (kwP n m perm ds es) (fun b => Φ (asD b) ρ2) NoX) : EW Γ (tCallK (SpD K Fam C) (kwP n m perm) E ts tk) ρ Φ :=
  ew_of_eb (eb_callW hK hF h)
theorem cbv_maxT {K : PySem.W.Frag} {ns : List Int} {z : Int} (hK : K = Γ.K) (h0 : z ∈ ns) (h1 : ∀ y ∈ ns, y ≤ z) : CbV Γ (rMaxT K) [.tup (ns.map D.int)] (.int z) := fun G H vs Q e r q => by
  subst hK
  cases r with
  | cons r1 r2 =>
    cases r2
    cases r1 with
    | tup hq hs =>
      have := hs.ints
      subst this
      refine ⟨_, ns, rfl, sq_up e hq, List.length_pos_of_mem h0, fun m hm hy => ?_⟩
      have : m = z := by
        have a := h1 m hm
        have b := hy z h0
        omega
      subst this
      exact q _ (.int _)
theorem cbv_minT {K : PySem.W.Frag} {ns : List Int} {z : Int} (hK : K = Γ.K) (h0 : z ∈ ns) (h1 : ∀ y ∈ ns, z ≤ y) : CbV Γ (rMinT K) [.tup (ns.map D.int)] (.int z) := fun G H vs Q e r q => by
  subst hK
  cases r with
  | cons r1 r2 =>
    cases r2
    cases r1 with
    | tup hq hs =>
      have := hs.ints
      subst this
      refine ⟨_, ns, rfl, sq_up e hq, List.length_pos_of_mem h0, fun m hm hy => ?_⟩
      have : m = z := by
        have a := h1 m hm
        have b := hy z h0
        omega
      subst this
      exact q _ (.int _)
theorem cbv_maxL {K : PySem.W.Frag} {ns : List Int} {z : Int} (hK : K = Γ.K) (h0 : z ∈ ns) (h1 : ∀ y ∈ ns, y ≤ z) : CbV Γ (rMax K) [.lst (ns.map D.int)] (.int z) := fun G H vs Q e r q => by
  subst hK
  cases r with
  | cons r1 r2 =>
    cases r2
    cases r1 with
    | lst hq hs =>
      have := hs.ints
      subst this
      refine ⟨_, ns, rfl, seq_of e hq, List.length_pos_of_mem h0, fun m hm hy => ?_⟩
      have : m = z := by
        have a := h1 m hm
        have b := hy z h0
        omega
      subst this
      exact q _ (.int _)
theorem cbv_minL {K : PySem.W.Frag} {ns : List Int} {z : Int} (hK : K = Γ.K) (h0 : z ∈ ns) (h1 : ∀ y ∈ ns, z ≤ y) : CbV Γ (rMin K) [.lst (ns.map D.int)] (.int z) := fun G H vs Q e r q => by
  subst hK
  cases r with
  | cons r1 r2 =>
    cases r2
    cases r1 with
    | lst hq hs =>
      have := hs.ints
      subst this
      refine ⟨_, ns, rfl, seq_of e hq, List.length_pos_of_mem h0, fun m hm hy => ?_⟩
      have : m = z := by
        have a := h1 m hm
        have b := hy z h0
        omega
      subst this
      exact q _ (.int _)
/-- there is a greatest one -/
theorem max_ex : ∀ {ns : List Int}, ns ≠ [] → ∃ z ∈ ns, ∀ y ∈ ns, y ≤ z
  | [], h => absurd rfl h
  | [x], _ => ⟨x, by simp, fun y hy => by rw [List.mem_singleton.mp hy]; exact Int.le_refl _⟩
  | x :: y :: ns, _ => by
    obtain ⟨z, hz, h⟩ := max_ex (ns := y :: ns) (by simp)
    by_cases c : z ≤ x
    · refine ⟨x, List.mem_cons_self, fun w hw => ?_⟩
      rcases List.mem_cons.mp hw with rfl | hw
      · exact Int.le_refl _
      · exact Int.le_trans (h w hw) c
    · refine ⟨z, List.mem_cons_of_mem _ hz, fun w hw => ?_⟩
      rcases List.mem_cons.mp hw with rfl | hw
      · omega
      · exact h w hw
end
end Dl
namespace Dl
open PySem L2
open Evl (Ex)
theorem opv_neD {Γ : Ctx} {K : PySem.W.Frag} {x y : D} {d e : PyData} (hK : K = Γ.K) (hx : Py x d) (hy : Py y e) (h1 : SeqAt.shaped d = true) (h2 : SeqAt.shaped e = true) : OpV Γ (rNeD K) x y (.bl (!PyData.eqv d e)) := fun G H vx vy Q ex rx ry q => by
  subst hK
  exact ⟨d, e, dp_of ex rx hx, dp_of ex ry hy, h1, h2, q _ (.bl _)⟩
theorem py_pair {a b : Int} : Py (.tup [.int a, .int b]) (.tuple [.int a, .int b]) := .tup (.cons (.int _) (.cons (.int _) .nil))
theorem shaped_pair {a b : Int} : SeqAt.shaped (.tuple [.int a, .int b]) = true := rfl
theorem eqv_pair {a b c d : Int} : PyData.eqv (.tuple [.int a, .int b]) (.tuple [.int c, .int d]) = (a == c && (b == d && true)) := rfl
end Dl
namespace Dl
open PySem L2
open Evl (Ex)
/-! ### comprehensions over zip -/
section
variable {Γ : Ctx} {ρ : Env} {te : TE} {tt : TT} {Ψ : B → Env → Prop} {ta tb : TE}
/-- a + b, both new lists -/
theorem eb_catE (h : EB Γ ta ρ fun b ρ1 => ∃ xs, b = .ow (.lst xs) ∧ ∀ c, EB (Γ.ext c) tb ρ1 fun b2 ρ2 => ∃ ys, b2 = .ow (.lst ys) ∧ xs.length + ys.length ≤ 100000 ∧ Ψ (.ow (.lst (xs ++ ys))) ρ2) : EB Γ (tOp rCat ta tb) ρ Ψ := fun σ G H Q k q =>
  h σ G H _ k fun b ρ1 v G1 H1 e1 k1 r1 ⟨xs, hb, h2⟩ => by
    subst hb
    obtain ⟨⟨p, o, ev, hp, ro, gp, fp, xp⟩, b2⟩ := r1
    subst ev
    have b2 := b2 _ rfl _ rfl
    cases ro with
    | @lst us _ ro =>
      refine h2 (p, .lst us) σ G1 H1 _ (k1.ext hp gp fp b2.1) fun b ρ2 w G2 H2 e2 k2 r2 ⟨ys, hb, hz, ps⟩ => ?_
      subst hb
      obtain ⟨⟨c, o2, rfl, f1, f2, _⟩, _⟩ := r2
      obtain ⟨at1, _, _⟩ := k2.cel (p, .lst us) List.mem_cons_self
      cases f2 with
      | @lst ws _ f2 =>
        exact ⟨p, c, us, ws, rfl, rfl, at1, f1, Evl.sz_of (by rw [ro.length, f2.length]; exact hz), fun m hm => q _ ρ2 _ _ _ (e1.trans e2) (k2.unext.newO hm) (br_new k2.unext hm ((ro.mono e2).append f2)) ps⟩
theorem eb_lcZT {K : PySem.W.Frag} {g : TG} {vs : List Nat} {ta : TA} (hK : K = Γ.K) (h : AW Γ ta ρ fun es ρ1 => ∃ xs ys, es = [.tup xs, .tup ys] ∧ xs.length = ys.length ∧ Comp Γ g vs tt te ((xs.zip ys).map fun p => .tup [p.1, p.2]) ρ1 Ψ) : EB Γ (tLc (RZ.iZipA K ta) g tt te vs) ρ Ψ := fun σ G H Q k q =>
  h σ G H _ k fun es ρ1 ws G1 H1 e1 k1 r1 ⟨xs, ys, he, hl, gw, hv, hz, J, j0, js, jd⟩ => by
    subst he
    subst hK
    cases r1 with
    | cons r1 r2 => cases r2 with
      | cons r2 r3 =>
        cases r3
        cases r1 with
        | @tup a us _ hq hs => cases r2 with
          | @tup b wz _ hq' hs' =>
            have lu := hs.length
            have lw := hs'.length
            refine ⟨a, b, us, wz, rfl, .inr ⟨sq_up k1.gh hq, sq_up k1.gh hq', fun p hp => ?_⟩⟩
            refine ⟨fun i m H => m = xs.length - i ∧ i ≤ xs.length ∧ ∃ G acc ds, Acc Γ G1 G H σ ρ1 p acc ∧ RepL Γ.K G acc ds ∧ J i ds ∧ acc.length ≤ i, ⟨xs.length, rfl, Nat.zero_le _, G1, [], [], Acc.new k1 hp, .nil, j0, Nat.le_refl _⟩, ?_⟩
            rintro i m H2 ⟨rfl, hi, G2, acc, ds, A, ra, j, la⟩
            have qx := sq_up (A.e.trans A.ok.gh) hq
            have qy := sq_up (A.e.trans A.ok.gh) hq'
            have zl : ((xs.zip ys).map fun p => D.tup [p.1, p.2]).length = xs.length := by rw [List.length_map, List.length_zip]; omega
            by_cases hlt : i < xs.length
            · have hu : us[i]? = some us[i] := List.getElem?_eq_getElem (by omega)
              have hw : wz[i]? = some wz[i] := List.getElem?_eq_getElem (by omega)
              refine .inr ⟨⟨us, wz, _, _, qx, qy, hu, hw⟩, fun H' => ∃ G acc ds, Acc Γ G1 G H' σ ρ1 p acc ∧ RepL Γ.K G acc ds ∧ J (i + 1) ds ∧ acc.length ≤ i + 1, fun H' p' => ⟨xs.length - (i + 1), by omega, rfl, hlt, p'⟩, fun v H' y => ?_⟩
              obtain ⟨T, x', y', rfl, hT, rfl, f1, f2⟩ := y
              obtain ⟨x, hx, rx⟩ := hs.get (f1 us qx)
              obtain ⟨y, hy, ry⟩ := hs'.get (f2 wz qy)
              obtain ⟨k3, e3⟩ := A.ok.new (o := .tup [x', y']) hT
              have pT : p ≠ T := fun e => by
                have := A.h
                rw [e, hT] at this
                cases this
              have A3 : Acc Γ G1 (upd G2 T (.tup [x', y'])) (upd H2 T (.tup [x', y'])) σ ρ1 p acc := ⟨k3, A.e.trans e3, by rw [upd_ne pT]; exact A.h, by rw [upd_ne pT]; exact A.g, A.f, A.n, A.x, A.z⟩
              have hxy : ((xs.zip ys).map fun p => D.tup [p.1, p.2])[i]? = some (.tup [x, y]) := by
                rw [List.getElem?_map, (List.getElem?_zip_eq_some (z := (x, y))).mpr ⟨hx, hy⟩]
                rfl
              refine Comp1.run (fun c => js i _ ds c hxy j) gw hv A3 (ra.mono e3) (.tup (SqT.of upd_same) (.cons (rx.mono (A.e.trans e3)) (.cons (ry.mono (A.e.trans e3)) .nil))) (by omega) fun H' ⟨G', acc', ds', A', r', j', l'⟩ => ⟨G', acc', ds', A', r', j', by omega⟩
            · have e : i = xs.length := by omega
              subst e
              refine .inl ⟨⟨us, wz, qx, qy, .inl (by omega)⟩, q _ ρ1 _ G2 H2 (e1.trans A.e) A.ok (acc_br A ra) (jd ds (by rw [zl]; exact j))⟩
theorem eb_lcZL {K : PySem.W.Frag} {g : TG} {vs : List Nat} {ta : TA} (hK : K = Γ.K) (h : AW Γ ta ρ fun es ρ1 => ∃ xs ys, es = [.lst xs, .lst ys] ∧ xs.length = ys.length ∧ Comp Γ g vs tt te ((xs.zip ys).map fun p => .tup [p.1, p.2]) ρ1 Ψ) : EB Γ (tLc (RZ.iZipA K ta) g tt te vs) ρ Ψ := fun σ G H Q k q =>
  h σ G H _ k fun es ρ1 ws G1 H1 e1 k1 r1 ⟨xs, ys, he, hl, gw, hv, hz, J, j0, js, jd⟩ => by
    subst he
    subst hK
    cases r1 with
    | cons r1 r2 => cases r2 with
      | cons r2 r3 =>
        cases r3
        cases r1 with
        | @lst a us _ hq hs => cases r2 with
          | @lst b wz _ hq' hs' =>
            have lu := hs.length
            have lw := hs'.length
            refine ⟨a, b, us, wz, rfl, .inl ⟨seq_of k1.gh hq, seq_of k1.gh hq', fun p hp => ?_⟩⟩
            refine ⟨fun i m H => m = xs.length - i ∧ i ≤ xs.length ∧ ∃ G acc ds, Acc Γ G1 G H σ ρ1 p acc ∧ RepL Γ.K G acc ds ∧ J i ds ∧ acc.length ≤ i, ⟨xs.length, rfl, Nat.zero_le _, G1, [], [], Acc.new k1 hp, .nil, j0, Nat.le_refl _⟩, ?_⟩
            rintro i m H2 ⟨rfl, hi, G2, acc, ds, A, ra, j, la⟩
            have qx := seq_of (A.e.trans A.ok.gh) hq
            have qy := seq_of (A.e.trans A.ok.gh) hq'
            have zl : ((xs.zip ys).map fun p => D.tup [p.1, p.2]).length = xs.length := by rw [List.length_map, List.length_zip]; omega
            by_cases hlt : i < xs.length
            · have hu : us[i]? = some us[i] := List.getElem?_eq_getElem (by omega)
              have hw : wz[i]? = some wz[i] := List.getElem?_eq_getElem (by omega)
              refine .inr ⟨⟨us, wz, _, _, qx, qy, hu, hw⟩, fun H' => ∃ G acc ds, Acc Γ G1 G H' σ ρ1 p acc ∧ RepL Γ.K G acc ds ∧ J (i + 1) ds ∧ acc.length ≤ i + 1, fun H' p' => ⟨xs.length - (i + 1), by omega, rfl, hlt, p'⟩, fun v H' y => ?_⟩
              obtain ⟨T, x', y', rfl, hT, rfl, f1, f2⟩ := y
              obtain ⟨x, hx, rx⟩ := hs.get (f1 us qx)
              obtain ⟨y, hy, ry⟩ := hs'.get (f2 wz qy)
              obtain ⟨k3, e3⟩ := A.ok.new (o := .tup [x', y']) hT
              have pT : p ≠ T := fun e => by
                have := A.h
                rw [e, hT] at this
                cases this
              have A3 : Acc Γ G1 (upd G2 T (.tup [x', y'])) (upd H2 T (.tup [x', y'])) σ ρ1 p acc := ⟨k3, A.e.trans e3, by rw [upd_ne pT]; exact A.h, by rw [upd_ne pT]; exact A.g, A.f, A.n, A.x, A.z⟩
              have hxy : ((xs.zip ys).map fun p => D.tup [p.1, p.2])[i]? = some (.tup [x, y]) := by
                rw [List.getElem?_map, (List.getElem?_zip_eq_some (z := (x, y))).mpr ⟨hx, hy⟩]
                rfl
              refine Comp1.run (fun c => js i _ ds c hxy j) gw hv A3 (ra.mono e3) (.tup (SqT.of upd_same) (.cons (rx.mono (A.e.trans e3)) (.cons (ry.mono (A.e.trans e3)) .nil))) (by omega) fun H' ⟨G', acc', ds', A', r', j', l'⟩ => ⟨G', acc', ds', A', r', j', by omega⟩
            · have e : i = xs.length := by omega
              subst e
              refine .inl ⟨⟨us, wz, qx, qy, .inl (by omega)⟩, q _ ρ1 _ G2 H2 (e1.trans A.e) A.ok (acc_br A ra) (jd ds (by rw [zl]; exact j))⟩
/-- the numbers from lo on -/
def rngD2 (lo : Int) (n : Nat) : List D := (List.range n).map fun (i : Nat) => D.int (lo + (i : Int))
theorem rngD2_len {lo : Int} {n : Nat} : (rngD2 lo n).length = n := by
  unfold rngD2
  rw [List.length_map, List.length_range]
theorem rngD2_get {lo : Int} {n i : Nat} (h : i < n) : (rngD2 lo n)[i]? = some (.int (lo + (i : Int))) := by
  unfold rngD2
  rw [List.getElem?_map, List.getElem?_range h]
  rfl
theorem eb_lcR2 {g : TG} {vs : List Nat} {ta : TA} (h : AW Γ ta ρ fun ds ρ1 => ∃ lo n : Int, ds = [.int lo, .int n] ∧ (-1000 ≤ lo ∧ lo ≤ 100000 ∧ -1000 ≤ n ∧ n ≤ 100000) ∧ Comp Γ g vs tt te (rngD2 lo (n - lo).toNat) ρ1 Ψ) : EB Γ (tLc (iRng2 ta) g tt te vs) ρ Ψ := fun σ G H Q k q =>
  h σ G H _ k fun d ρ1 v G1 H1 e1 k1 r1 ⟨lo, n, e, bn, gw, hv, hl, J, j0, js, jd⟩ => by
    subst e
    rw [rngD2_len] at hl jd
    cases r1 with
    | cons r r' => cases r' with
      | cons r2 r' => cases r' with
        | nil =>
          cases r
          cases r2
          exact ⟨lo, n, rfl, by omega, fun p hp => lc_range (lo := lo) (n := (n - lo).toNat) (fun i H => ∃ G acc ds, Acc Γ G1 G H σ ρ1 p acc ∧ RepL Γ.K G acc ds ∧ J i ds ∧ acc.length ≤ i) ⟨G1, [], [], Acc.new k1 hp, .nil, j0, Nat.le_refl _⟩
            (fun i H hi ⟨G2, acc, es, A, ra, j, la⟩ => Comp1.run (fun c => js i _ es c (rngD2_get hi) j) gw hv A ra (.int _) (by omega) fun H' ⟨G', acc', ds', A', r', j', l'⟩ => ⟨G', acc', ds', A', r', j', by omega⟩)
            (fun H ⟨G2, acc, es, A, ra, j, la⟩ => q _ ρ1 _ G2 H (e1.trans A.e) A.ok (acc_br A ra) (jd es j))⟩
/-- [te for i, j in zip(..)], each turn reckoned alone -/
theorem eb_mapZT {K K' : PySem.W.Frag} {ta : TA} {i j n : Nat} {vs : List Nat} (hv : vs = [i, j]) (hK : K = Γ.K) (hK' : K' = Γ.K) (hn : n = 2) (hij : i ≠ j) (h : AW Γ ta ρ fun es ρ1 => ∃ xs ys, es = [.tup xs, .tup ys] ∧ xs.length = ys.length ∧ Maps2 Γ i j te ((xs.zip ys).map fun p => .tup [p.1, p.2]) ρ1 Ψ) : EB Γ (tLc (RZ.iZipA K ta) (gTup K' n (gCons (gName i) (gCons (gName j) gNil))) tYes te vs) ρ Ψ := by
  subst hv
  exact eb_lcZT hK fun σ G H Q k q => h σ G H Q k fun d ρ1 v G1 H1 e1 k1 r1 ⟨xs, ys, hd, hl, m⟩ => q d ρ1 v G1 H1 e1 k1 r1 ⟨xs, ys, hd, hl, m.comp hK' hn hij⟩
end
end Dl

namespace Dl
open PySem PySem.Spec PyProof.Rows L2
/-! ### exceptions whose context is known to be None: they may be looked at in a suite that calls -/
/-- an own exception with its own __init__, made where none is handled -/
theorem made_own {X : Cx} {G : CXT} {x : Str} {C fI : Addr} {k : Nat} {fd : FuncData} {ps : List Str} {sp : Sp} {e : Expr} {es : List Expr} {ta : TA} {p pos : Pos}
    (T : OexC X.K C) (iC : PySem.W.findIn X.K (.ref C) "__init__" = some (some (.ref fI))) (tI : PySem.W.typeIn X.K (.ref fI) = some (.type "function")) (D : FnOk X.prog X.w X.K X.mg X.base G k fI fd ps sp)
    (room : Room (k + 1) X.A) (b : Binds X.K fd ps []) (out : Passes G X fun _ _ _ => False) (g : Gl X x) (m : X.mg x = some (.ref C)) (args : PA X (e :: es) ta)
    (nd : (x == ("__debug__" : Str)) = false := by decide) (st : starEach (e :: es) X.env = (false, eval e X.env) :: starEach es X.env := by rfl) (pl : (backTo pos (starEach es X.env)).any (·.1) = false := by rfl) :
    L2N.PMk X (.Call (.Name x p) (e :: es) [] pos) (tMkO C sp [] ta) := fun pins s σ H Q I w => by
  obtain ⟨_, _, _, _, bm, _, _, _, _, _, _, _, _, _, _, atC, inB⟩ := T.cls
  apply wpAny_Call_Name_kw
  apply ld_glob I g m _ nd
  apply PySem.W.callWith_K (h₀ := X.base) I.ok.mod.kin T.kC _ st pl
  apply thn (args.run pos pins s σ H _ I w)
  rintro us ⟨h1, g1, d1, t1, o1⟩ ⟨vs, H1, I1, rv, short, made⟩
  refine ⟨I1.kIn, ?_⟩
  -- the new object's place, the heap behind its making
  obtain ⟨a, ea⟩ : ∃ a, a = h1.objs.size + 1 := ⟨_, rfl⟩
  obtain ⟨h2, eh⟩ : ∃ h2, h2 = (h1.push (PySem.W.kdv_tup us)).push (PySem.HandSPX.excO C h1.objs.size) := ⟨_, rfl⟩
  have old : ∀ c o, h1.get? c = some o → h2.get? c = some o := fun c o q => by
    rw [eh]
    exact Heap.get?_push_of_some _ (Heap.get?_push_of_some _ q)
  have le : h1.objs.size ≤ a := by omega
  have at_ : h2.get? a = some (PySem.HandSPX.excO C h1.objs.size) := by
    rw [eh, ea]
    heap_get
  have free : H1 a = none := I1.hok.fresh le
  have run := made a free
  simp only [List.append_nil] at run
  have J : Inv X pins σ (upd H1 a (exo a C none)) ⟨h2, g1, d1, t1, o1⟩ := I1.laid (t' := t1) (o := exo a C none) old le (exo_ok at_)
  have rvs : Vals (V.ref a :: vs) (Value.ref a :: us) := Paired.cons rfl rv
  have same : (Value.ref a :: us).length = ps.length := rvs.length.symm.trans (D.len _ _ _ _ run)
  have bound := b ⟨h2, g1, d1, t1, o1⟩ (Value.ref a :: us) J.kIn (by rw [List.append_nil]; exact same)
  simp only [List.append_nil] at bound
  have few : us.length ≤ sizeLine := by
    rw [← Paired.length rv, sizeLine_eq]
    omega
  have body := D.run (X.A.under (.builtin "type.__call__" ⟨.ref C :: us, []⟩)) X.stack _ _ ⟨Value.ref a :: us, []⟩ (Value.ref a :: us) _ _ (fun _ _ _ => False) (room.make C us []) (J.env0.make C us []) bound rvs run
  subst ea eh
  refine wpAny_call (PySem.HandSPX.call_own F.excBase_ValueError (fun Y => PySem.HandSPX.refsVE_contains Y bm inB) (I1.kIn _ _ atC) (PySem.W.looks_findIn I1.kIn iC) (fun self => PySem.W.bind_fn I1.kIn self tI) few (codeAny_mono body ?_))
  rintro (er | fl) ⟨h3, g3, d3, t3, o3⟩ z
  · exact out pins σ _ _ er _ J z
  · match fl, z with
    | .ret u, z =>
      obtain ⟨_, H3, os3, bare3, un3, hok3, ru, rfl, d, fs, e1, e2, fr, wish⟩ := z
      obtain ⟨t0, h0, I0, keep, gone, here, hole⟩ := mk_end0 (d2 := d3) (t2 := t3) I1 le old un3 hok3 os3 bare3 e1 e2 fr
      exact ⟨ru, _, _, _, ⟨h0, g3, d3, t3, o3⟩, _, .ref C, some d, rfl, I0, keep, gone, here, ⟨rfl, rfl, fun ws q => by cases q; rfl⟩, rfl, rfl, hole, rfl, bare3, raises_own T.exC T.tyC, wish⟩
section
variable {P : Program} {w : World} {K : PySem.W.Frag} {mg : Str → Option Value} {base : Heap} {x qual : Str} {st : Stmt} {f : Addr} {fd : FuncData} {N ps : List Str} {k : Nat} {sp : Sp}
/-- a def that raises such exceptions -/
theorem okN (F : Fun K x qual st f fd) (S : FnScope N ps (defScope st)) (len : ∀ vs H Q E, sp vs H Q E → vs.length = ps.length)
    (body : ∀ (cd : Value) (A : Around) (outer : List PySem.Env) (s : Shared) (H : Hp) (vs : List V) (Q : VK) (E : XK), Room k (A.deeper (envOfC qual (defScope st) s.heap.objs.size f cd)) → sp vs H Q E → ∃ t, PSs (cxOf (L2N.CX P w) P w K mg base N qual (defScope st) f cd A outer s H E) (defBody st) t ∧ t ⟨fun _ H' => Q .non H', Q, fun _ _ => False, fun _ _ => False⟩ (start N vs) H) :
    FnOk P w K mg base (L2N.CX P w) (k + 1) f fd ps sp := by
  obtain ⟨_, _, _, _, _, _, cd, _, _, e, at_, cod⟩ := F.ex
  subst e
  exact fn_of at_ cod S len (body cd)
/-- a def that raises nothing, called while an exception is handled -/
theorem okH (F : Fun K x qual st f fd) (S : FnScope N ps (defScope st)) (len : ∀ vs H Q E, sp vs H Q E → vs.length = ps.length)
    (body : ∀ (cd : Value) (A : Around) (outer : List PySem.Env) (s : Shared) (H : Hp) (vs : List V) (Q : VK) (E : XK) (p : Addr × Obj), L2H.HotC (L2H.cxH CX0 P w K mg base N qual (defScope st) f cd A outer s H E p).nox → L2H.RoomH k (A.deeper (envOfC qual (defScope st) s.heap.objs.size f cd)) → sp vs H Q E →
      ∃ t, PSs (L2H.cxH CX0 P w K mg base N qual (defScope st) f cd A outer s H E p).nox (defBody st) t ∧ t ⟨fun _ H' => Q .non H', Q, fun _ _ => False, fun _ _ => False⟩ (start N vs) H) :
    L2H.FnH P w K mg base CX0 (k + 1) f fd ps sp := by
  obtain ⟨_, _, _, _, _, _, cd, _, _, e, at_, cod⟩ := F.ex
  subst e
  refine L2H.fn_ofH at_ cod S len fun A outer s H vs Q E p hot room wish => ?_
  obtain ⟨t, h, q⟩ := body cd A outer s H vs Q E p ⟨p, hot, List.mem_singleton.mpr rfl⟩ room wish
  exact ⟨t, h.nox, q⟩
end
theorem passLN {X : Cx} : Passes (L2N.CX X.prog X.w) X E0 := fun _ _ _ _ _ _ _ h => by
  obtain ⟨_, _, _, _, _, _, _, _, _, _, _, _, z⟩ := h
  exact z.elim
theorem takes0N {X : Cx} : L2N.Takes X (fun _ _ _ _ => False) := fun _ _ h => by
  obtain ⟨_, _, _, _, _, _, _, _, _, _, _, _, _, _, _, _, z⟩ := h
  exact z.elim
theorem pass0A {X : Cx} (σ : L2.St) : PassesAt CX0 X σ E0 := fun _ _ _ _ _ _ h => h.elim
theorem hot_suite {X : Cx} {a : Addr} {oe : Obj} {cls : Value} {d : Option Addr} {pn : List (Addr × Obj)} (z : L2N.Zn cls d oe) (v : ∃ vs, oe.data = .fields vs) : L2H.HotC (X.suite a ((a, oe) :: pn)) := by
  obtain ⟨vs, e⟩ := v
  exact ⟨(a, oe), ⟨rfl, vs, e, z.2.2 vs e⟩, List.mem_cons_self⟩
section
variable {Γ : Ctx} {ρ : Env} {Φ : D → Env → Prop}
theorem ew_callH {K : PySem.W.Frag} {C : Cn} {Fam : Rsc → Prop} {ts : TA} {E : XK} (hK : K = Γ.K) (hF : Fam Rsc.no) (h : AW Γ ts ρ fun ds ρ1 => C Γ.K 0 ds (fun b => Φ (asD b) ρ1) NoX) : EW Γ (tCallS (SpD K Fam C) (fun _ => E) ts) ρ Φ := by
  have e : tCallS (SpD K Fam C) (fun _ => E) ts = tCall (SpD K Fam C) [] E ts := by
    funext σ H Q
    show ts σ H (fun vs H1 => SpD K Fam C vs H1 Q E) = ts σ H (fun vs H1 => SpD K Fam C (vs ++ []) H1 Q E)
    simp only [List.append_nil]
  rw [e]
  exact ew_callP hK hF h
end
end Dl

/-! Sh: plain arithmetic of shares. -/
namespace Sh
def gi (a b : Int) : Int := (Int.gcd a b : Int)
theorem gi_nn (a b : Int) : 0 ≤ gi a b := Int.natCast_nonneg _
theorem gi_pos {a b : Int} (h : b ≠ 0) : 0 < gi a b := by
  unfold gi
  have : 0 < Int.gcd a b := Int.gcd_pos_iff.mpr (.inr h)
  omega
theorem gi_l (a b : Int) : gi a b ∣ a := Int.gcd_dvd_left a b
theorem gi_r (a b : Int) : gi a b ∣ b := Int.gcd_dvd_right a b
theorem gi_abs (a b : Int) : gi (a.natAbs : Int) (b.natAbs : Int) = gi a b := by
  unfold gi Int.gcd
  simp
theorem gi_mod {x y : Int} (hx : 0 ≤ x) (hy : 0 < y) : gi y (x % y) = gi x y := by
  obtain ⟨m, rfl⟩ := Int.eq_ofNat_of_zero_le hx
  obtain ⟨n, rfl⟩ := Int.eq_ofNat_of_zero_le (Int.le_of_lt hy)
  unfold gi Int.gcd
  have e : ((m : Int) % (n : Int)).natAbs = m % n := by
    rw [← Int.natCast_emod]
    exact Int.natAbs_natCast _
  rw [e, Int.natAbs_natCast, Int.natAbs_natCast]
  have h := Nat.gcd_rec n m
  rw [Nat.gcd_comm m n, h, Nat.gcd_comm]
theorem gi_zero {x : Int} (hx : 0 ≤ x) : gi x 0 = x := by
  unfold gi
  rw [Int.gcd_zero_right]
  omega
theorem gi_le {a b : Int} (h : b ≠ 0) : gi a b ≤ b.natAbs := by
  have h1 := Int.natAbs_dvd_natAbs.mpr (gi_r a b)
  have h2 := Nat.le_of_dvd (by omega) h1
  have h3 := gi_nn a b
  omega
/-- in lowest terms -/
def red (a b : Int) : Int × Int := if b < 0 then ((-a) / gi a b, (-b) / gi a b) else (a / gi a b, b / gi a b)
structure IsSh (p : Int × Int) : Prop where
  pos : 0 < p.2
  co : gi p.1 p.2 = 1
theorem gi_neg (a b : Int) : gi (-a) (-b) = gi a b := by
  unfold gi
  rw [Int.neg_gcd, Int.gcd_neg]
theorem gi_div {a b : Int} (h : b ≠ 0) : gi (a / gi a b) (b / gi a b) = 1 := by
  have hp := gi_pos (a := a) h
  have e := Int.gcd_ediv (gi_l a b) (gi_r a b)
  unfold gi at e ⊢
  rw [e]
  have : Int.gcd a b / ((Int.gcd a b : Nat) : Int).natAbs = 1 := by
    rw [Int.natAbs_natCast]
    exact Nat.div_self (by unfold gi at hp; omega)
  rw [this]
  rfl
theorem red_pos {a b : Int} (h : 0 < b) : red a b = (a / gi a b, b / gi a b) := by
  unfold red
  rw [if_neg (by omega)]
theorem red_neg {a b : Int} (h : b < 0) : red a b = ((-a) / gi (-a) (-b), (-b) / gi (-a) (-b)) := by
  unfold red
  rw [if_pos h, gi_neg]
theorem div_pos {a b : Int} (h : 0 < b) : 0 < b / gi a b := by
  have h1 := Int.ediv_mul_cancel (gi_r a b)
  have h2 := gi_pos (a := a) (b := b) (by omega)
  by_cases hc : 0 < b / gi a b
  · exact hc
  · exfalso
    have : b / gi a b * gi a b ≤ 0 := Int.mul_nonpos_of_nonpos_of_nonneg (by omega) (by omega)
    omega
theorem red_sh {a b : Int} (h : b ≠ 0) : IsSh (red a b) := by
  by_cases hb : b < 0
  · rw [red_neg hb]
    exact ⟨div_pos (by omega), gi_div (by omega)⟩
  · rw [red_pos (by omega)]
    exact ⟨div_pos (by omega), gi_div h⟩
theorem red_val {a b : Int} (h : b ≠ 0) : (red a b).1 * b = a * (red a b).2 := by
  have key : ∀ {a b : Int}, 0 < b → (a / gi a b) * b = a * (b / gi a b) := fun {a b} hb => by
    have h1 := Int.ediv_mul_cancel (gi_l a b)
    have h2 := Int.ediv_mul_cancel (gi_r a b)
    have h3 : (a / gi a b) * (b / gi a b * gi a b) = (a / gi a b * gi a b) * (b / gi a b) := by
      rw [Int.mul_assoc, Int.mul_comm (b / gi a b)]
    rw [h1, h2] at h3
    exact h3
  by_cases hb : b < 0
  · rw [red_neg hb]
    have e := key (a := -a) (b := -b) (by omega)
    show (-a) / gi (-a) (-b) * b = a * ((-b) / gi (-a) (-b))
    rw [Int.mul_neg, Int.neg_mul] at e
    omega
  · rw [red_pos (by omega)]
    exact key (by omega)
theorem dvd_co {k m n : Int} (h : gi k m = 1) (d : k ∣ m * n) : k ∣ n := by
  rw [← Int.natAbs_dvd_natAbs] at d ⊢
  rw [Int.natAbs_mul] at d
  refine Nat.Coprime.dvd_of_dvd_mul_left ?_ d
  unfold gi Int.gcd at h
  show Nat.gcd _ _ = 1
  omega
theorem gi_comm (a b : Int) : gi a b = gi b a := by
  unfold gi
  rw [Int.gcd_comm]
theorem sh_unique {p q : Int × Int} (hp : IsSh p) (hq : IsSh q) (e : p.1 * q.2 = q.1 * p.2) : p = q := by
  obtain ⟨a, b⟩ := p
  obtain ⟨c, d⟩ := q
  obtain ⟨p1, p2⟩ := hp
  obtain ⟨q1, q2⟩ := hq
  dsimp only at *
  have h1 : b ∣ d := dvd_co (m := a) (by rw [gi_comm]; exact p2) ⟨c, by rw [e, Int.mul_comm]⟩
  have h2 : d ∣ b := dvd_co (m := c) (by rw [gi_comm]; exact q2) ⟨a, by rw [← e, Int.mul_comm]⟩
  have e1 : b = d := Int.dvd_antisymm (by omega) (by omega) h1 h2
  subst e1
  have e2 : a = c := Int.eq_of_mul_eq_mul_right (by omega) e
  rw [e2]
theorem red_is {p : Int × Int} {a b : Int} (hp : IsSh p) (h : b ≠ 0) (e : a * p.2 = p.1 * b) : red a b = p := by
  refine sh_unique (red_sh h) hp ?_
  have v := red_val (a := a) h
  have : (red a b).1 * p.2 * b = p.1 * (red a b).2 * b := by
    rw [Int.mul_right_comm, v, Int.mul_right_comm, e, Int.mul_right_comm]
  exact Int.eq_of_mul_eq_mul_right h this
theorem red_self {p : Int × Int} (hp : IsSh p) : red p.1 p.2 = p := red_is hp (by have := hp.pos; omega) rfl
theorem red_zero {b : Int} (h : b ≠ 0) : red 0 b = (0, 1) := red_is ⟨by decide, by decide⟩ h (by simp)
/-- the law's own way -/
theorem law_red {a b : Int} (h : b ≠ 0) : (a.fdiv (if b < 0 then 0 - gi a b else gi a b), b.fdiv (if b < 0 then 0 - gi a b else gi a b)) = red a b := by
  by_cases hb : b < 0
  · rw [if_pos hb]
    have d1 : (0 - gi a b) ∣ a := by
      rw [Int.zero_sub, Int.neg_dvd]
      exact gi_l a b
    have d2 : (0 - gi a b) ∣ b := by
      rw [Int.zero_sub, Int.neg_dvd]
      exact gi_r a b
    rw [Int.fdiv_eq_ediv_of_dvd d1, Int.fdiv_eq_ediv_of_dvd d2, Int.zero_sub, Int.ediv_neg, Int.ediv_neg]
    unfold red
    rw [if_pos hb, Int.neg_ediv_of_dvd (gi_l a b), Int.neg_ediv_of_dvd (gi_r a b)]
  · rw [if_neg hb, Int.fdiv_eq_ediv_of_dvd (gi_l a b), Int.fdiv_eq_ediv_of_dvd (gi_r a b)]
    unfold red
    rw [if_neg hb]
/-! ### sums of many -/
def stepT (s p : Int × Int) : Int × Int := (s.1 * (p.2 / gi s.2 p.2) + p.1 * (s.2 / gi s.2 p.2), s.2 / gi s.2 p.2 * p.2)
def stepD (s p : Int × Int) : Int × Int := red (s.1 * p.2 + p.1 * s.2) (s.2 * p.2)
structure Rel (t d : Int × Int) : Prop where
  pos : 0 < t.2
  sh : IsSh d
  eq : t.1 * d.2 = d.1 * t.2
theorem rel_step {t d p : Int × Int} (r : Rel t d) (hp : 0 < p.2) : Rel (stepT t p) (stepD d p) := by
  obtain ⟨t1, t2⟩ := t
  obtain ⟨d1, d2⟩ := d
  obtain ⟨p1, p2⟩ := p
  obtain ⟨r1, ⟨r2, r3⟩, r4⟩ := r
  dsimp only at *
  have hM : 0 < d2 * p2 := Int.mul_pos r2 hp
  have hg : 0 < gi t2 p2 := gi_pos (by omega)
  have ha : 0 < t2 / gi t2 p2 := by
    rw [gi_comm]
    exact div_pos r1
  have g1 := Int.ediv_mul_cancel (gi_l t2 p2)
  have g2 := Int.ediv_mul_cancel (gi_r t2 p2)
  have v := red_val (a := d1 * p2 + p1 * d2) (b := d2 * p2) (by omega)
  refine ⟨Int.mul_pos ha hp, red_sh (show d2 * p2 ≠ 0 by omega), ?_⟩
  show (t1 * (p2 / gi t2 p2) + p1 * (t2 / gi t2 p2)) * (stepD (d1, d2) (p1, p2)).2 = (stepD (d1, d2) (p1, p2)).1 * (t2 / gi t2 p2 * p2)
  have e1 : stepD (d1, d2) (p1, p2) = red (d1 * p2 + p1 * d2) (d2 * p2) := rfl
  rw [e1]
  generalize (red (d1 * p2 + p1 * d2) (d2 * p2)).1 = u at *
  generalize (red (d1 * p2 + p1 * d2) (d2 * p2)).2 = z at *
  generalize gi t2 p2 = g at *
  generalize t2 / g = x at *
  generalize p2 / g = y at *
  have hz : (g * (d2 * p2)) ≠ 0 := by
    have := Int.mul_pos hg hM
    omega
  refine Int.eq_of_mul_eq_mul_right hz ?_
  subst g1 g2
  grind
theorem rel_start : Rel (0, 1) (0, 1) := ⟨by decide, ⟨by decide, by decide⟩, by decide⟩
theorem rel_fold : ∀ (ps : List (Int × Int)) {t d : Int × Int}, Rel t d → (∀ p ∈ ps, 0 < p.2) → Rel (ps.foldl stepT t) (ps.foldl stepD d)
  | [], _, _, r, _ => r
  | p :: ps, _, _, r, h => rel_fold ps (rel_step r (h p List.mem_cons_self)) fun q hq => h q (List.mem_cons_of_mem _ hq)
theorem total_is {ps : List (Int × Int)} (h : ∀ p ∈ ps, 0 < p.2) : red (ps.foldl stepT (0, 1)).1 (ps.foldl stepT (0, 1)).2 = ps.foldl stepD (0, 1) := by
  have r := rel_fold ps rel_start h
  exact red_is r.sh (by have := r.pos; omega) r.eq
/-! sizes -/
def Sm (n : Nat) (p : Int × Int) : Prop := p.1.natAbs < 2 ^ n ∧ p.2.natAbs < 2 ^ n
theorem ediv_abs {a g : Int} (h : 0 < g) (d : g ∣ a) : (a / g).natAbs ≤ a.natAbs := by
  obtain ⟨k, rfl⟩ := d
  rw [Int.mul_ediv_cancel_left k (by omega), Int.natAbs_mul]
  exact Nat.le_mul_of_pos_left _ (by omega)
theorem mul_sm {a b : Int} {m n : Nat} (ha : a.natAbs < 2 ^ m) (hb : b.natAbs < 2 ^ n) : (a * b).natAbs < 2 ^ (m + n) := by
  rw [Int.natAbs_mul, Nat.pow_add]
  exact Nat.mul_lt_mul'' ha hb
theorem add_sm {a b : Int} {m : Nat} (ha : a.natAbs < 2 ^ m) (hb : b.natAbs < 2 ^ m) : (a + b).natAbs < 2 ^ (m + 1) := by
  rw [Nat.pow_succ]
  omega
theorem sm_mono {a : Int} {m n : Nat} (h : a.natAbs < 2 ^ m) (l : m ≤ n) : a.natAbs < 2 ^ n := Nat.lt_of_lt_of_le h (Nat.pow_le_pow_right (by decide) l)
theorem red_sm {a b : Int} {n : Nat} (h : b ≠ 0) (ha : a.natAbs < 2 ^ n) (hb : b.natAbs < 2 ^ n) : Sm n (red a b) := by
  have hg := gi_pos (a := a) h
  unfold red
  split
  · exact ⟨Nat.lt_of_le_of_lt (ediv_abs hg ((Int.dvd_neg).mpr (gi_l a b))) (by omega), Nat.lt_of_le_of_lt (ediv_abs hg ((Int.dvd_neg).mpr (gi_r a b))) (by omega)⟩
  · exact ⟨Nat.lt_of_le_of_lt (ediv_abs hg (gi_l a b)) ha, Nat.lt_of_le_of_lt (ediv_abs hg (gi_r a b)) hb⟩
theorem stepT_sm {s p : Int × Int} {m n : Nat} (hs : Sm m s) (hp : Sm n p) (hp2 : 0 < p.2) : Sm (m + n + 1) (stepT s p) := by
  have hg := gi_pos (a := s.2) (b := p.2) (by omega)
  have h1 : (p.2 / gi s.2 p.2).natAbs < 2 ^ n := Nat.lt_of_le_of_lt (ediv_abs hg (gi_r _ _)) hp.2
  have h2 : (s.2 / gi s.2 p.2).natAbs < 2 ^ m := Nat.lt_of_le_of_lt (ediv_abs hg (gi_l _ _)) hs.2
  exact ⟨add_sm (mul_sm hs.1 h1) (by rw [Nat.add_comm]; exact mul_sm hp.1 h2), sm_mono (mul_sm h2 hp.2) (by omega)⟩
theorem stepD_sm {s p : Int × Int} {m n : Nat} (hs : Sm m s) (hp : Sm n p) (hs2 : 0 < s.2) (hp2 : 0 < p.2) : Sm (m + n + 1) (stepD s p) := by
  have := Int.mul_pos hs2 hp2
  exact red_sm (by omega) (add_sm (mul_sm hs.1 hp.2) (by rw [Nat.add_comm]; exact mul_sm hp.1 hs.2)) (sm_mono (mul_sm hs.2 hp.2) (by omega))
end Sh

/-! Bx: the box that some laws draw from: [great, small, turn], two lists of its own and a number -/
namespace Dl
open PySem L2
open Evl (Ex)
def boxR (b g s : Addr) : Rsc := ⟨b, fun a => a = b ∨ a = g ∨ a = s, fun H => ∃ (gs small : List Int) (turn : Int), H b = some (.lst [.ref g, .ref s, .int turn]) ∧ H g = some (.lst (gs.map V.int)) ∧ H s = some (.lst (small.map V.int)) ∧ (∀ x ∈ gs, 0 ≤ x) ∧ (∀ x ∈ small, 0 ≤ x ∧ x < 2147483629) ∧ gs.length ≤ 64 ∧ 0 < small.length ∧ small.length ≤ 64 ∧ 0 ≤ turn,
  fun H H' ⟨gs, small, turn, h1, h2, h3, h4⟩ k => ⟨gs, small, turn, (k b (.inl rfl)).trans h1, (k g (.inr (.inl rfl))).trans h2, (k s (.inr (.inr rfl))).trans h3, h4⟩,
  fun H a ⟨gs, small, turn, h1, h2, h3, h4⟩ e => by
    rcases e with rfl | rfl | rfl
    · rw [h1]; simp
    · rw [h2]; simp
    · rw [h3]; simp⟩
def IsBox (R : Rsc) : Prop := ∃ b g s, b ≠ g ∧ b ≠ s ∧ g ≠ s ∧ R = boxR b g s
/-- what _law_box promises -/
def spBox (K : PySem.W.Frag) : Sp := fun vs H Q _ => ∃ (a : Addr) (ns : List Int), vs = [.ref a] ∧ SqL K H a (ns.map V.int) ∧ ns.length ≤ 63 ∧ ∀ b g s H', b ≠ g → b ≠ s → g ≠ s → H b = none → H g = none → H s = none → (∀ x o, H x = some o → H' x = some o) → (boxR b g s).I H' → Q (.ref b) H'
theorem sw_box {Γ : Ctx} {K : PySem.W.Frag} {te : TE} {tu : TS} {E : XK} {ρ : Env} {Δ : Fin} {i : Nat} (hK : K = Γ.K) (hR : Γ.R = Rsc.no) (hX : Γ.X = []) (h : EW Γ te ρ fun d ρ1 => ∃ ns : List Int, d = .lst (ns.map D.int) ∧ ns.length ≤ 63 ∧ ∀ R, IsBox R → SW { Γ with R := R } tu (ρ1.set i (some (.fz (.ptr R.w)))) Δ) :
    SW Γ (tSeq (tAsg (tCall (spBox K) [] E (tCons te tNil)) (gName i)) tu) ρ Δ := fun σ G0 H0 D k0 hn hr hb hc => h σ G0 H0 _ k0 fun d ρ1 v G1 H1 e1 k1 r1 ⟨ns, hd, hl, hs⟩ => by
  subst hd hK
  obtain ⟨K, G, H, R, X⟩ := Γ
  cases hR
  cases hX
  cases r1 with
  | @lst a xs _ hq hss =>
    have := hss.ints
    subst this
    refine ⟨a, ns, rfl, seq_of k1.gh hq, hl, fun b g s H' d1 d2 d3 hb0 hg0 hs0 ext hI => ?_⟩
    have fF : ∀ x, (boxR b g s).F x → H1 x = none := fun x e => by
      rcases e with rfl | rfl | rfl
      · exact hb0
      · exact hg0
      · exact hs0
    have g1 : ∀ x, H1 x = none → G1 x = none := fun x e => by
      cases z : G1 x with
      | none => rfl
      | some o => rw [k1.gh x o z] at e; cases e
    have h0 : ∀ x, H1 x = none → H x = none := fun x e => by
      cases z : H x with
      | none => rfl
      | some o => exact absurd e (k1.dm x (by show H x ≠ none; rw [z]; simp))
    have bv : ∀ {v : V} {c : B}, BV (⟨K, G, H, Rsc.no, []⟩ : Ctx) G1 H1 v c → BV (⟨K, G, H, boxR b g s, []⟩ : Ctx) G1 H' v c := fun {v c} q => by
      cases c with
      | fz d => exact q
      | ow es =>
        obtain ⟨y, o, rfl, q1, q2, q3, q4, q5⟩ := q
        exact ⟨y, o, rfl, ext y o q1, q2, q3, (fun e => by rw [fF y e] at q1; cases q1), q5⟩
    have k' : Ok (⟨K, G, H, boxR b g s, []⟩ : Ctx) G1 H' (σ.set i (some (.ref b))) (ρ1.set i (some (.fz (.ptr b)))) := by
      have ow : ∀ j y, own (σ.set i (some (.ref b))) (ρ1.set i (some (.fz (.ptr b)))) j y → own σ ρ1 j y := fun j y ⟨p, es, q⟩ => by
        by_cases hj : j = i
        · subst hj
          rw [List.getElem?_set] at q
          simp only [if_true] at q
          split at q <;> cases q
        · rw [List.getElem?_set_ne (Ne.symm hj)] at p q
          exact ⟨p, es, q⟩
      refine ⟨fun x o z => ext x o (k1.gh x o z), k1.g0, k1.nw, fun x o _ z => ext x o (k1.fr x o (fun z => z) z), fun x z => ?_, hI, fun x e => g1 x (fF x e), by rw [List.length_set, List.length_set]; exact k1.len, fun j c z => ?_, fun j l y o1 o2 => k1.dj j l y (ow j y o1) (ow l y o2), fun p hp => absurd hp (by simp), fun j y _ p hp => absurd hp (by simp)⟩
      · cases w : H1 x with
        | none => exact absurd w (k1.dm x z)
        | some o => rw [ext x o w]; simp
      · by_cases hj : j = i
        · subst hj
          have hlt : j < ρ1.length := by
            have := (List.getElem?_eq_some_iff.mp z).1
            rw [List.length_set] at this
            exact this
          rw [List.getElem?_set_self hlt] at z
          cases z
          exact ⟨_, List.getElem?_set_self (by rw [k1.len]; exact hlt), Rep.ptr b⟩
        · rw [List.getElem?_set_ne (Ne.symm hj)] at z
          obtain ⟨v, e1, e2⟩ := k1.var j c z
          exact ⟨v, by rw [List.getElem?_set_ne (Ne.symm hj)]; exact e1, bv e2⟩
    have un : ∀ {G' H' : Hp} {σ' : St} {ρ' : Env}, Ok (⟨K, G, H, boxR b g s, []⟩ : Ctx) G' H' σ' ρ' → Ok (⟨K, G, H, Rsc.no, []⟩ : Ctx) G' H' σ' ρ' := fun k => by
      refine ⟨k.gh, k.g0, k.nw, fun x o _ z => ?_, k.dm, trivial, fun x e => e.elim, k.len, fun j c z => ?_, k.dj, fun p hp => absurd hp (by simp), fun j y _ p hp => absurd hp (by simp)⟩
      · exact k.fr x o (fun e => by
          have := h0 x (fF x e)
          have z' : H x = some o := z
          rw [this] at z'
          cases z') z
      · obtain ⟨v, e1, e2⟩ := k.var j c z
        refine ⟨v, e1, ?_⟩
        cases c with
        | fz d => exact e2
        | ow es =>
          obtain ⟨y, o, rfl, q1, q2, q3, q4, q5⟩ := e2
          exact ⟨y, o, rfl, q1, q2, q3, fun e => e, q5⟩
    refine hs (boxR b g s) ⟨b, g, s, d1, d2, d3, rfl⟩ (σ.set i (some (.ref b))) G1 H' D k' (fun ρ' σ' G' H' e k' p => hn ρ' σ' G' H' (e1.trans e) (un k') p) (fun c v σ' ρ' G' H' k' r p => hr c v σ' ρ' G' H' (un k') ?_ p) (fun ρ' σ' G' H' e k' p => hb ρ' σ' G' H' (e1.trans e) (un k') p) (fun ρ' σ' G' H' e k' p => hc ρ' σ' G' H' (e1.trans e) (un k') p)
    obtain ⟨r1, r2⟩ := r
    refine ⟨?_, r2⟩
    cases c with
    | fz d => exact r1
    | ow es =>
      obtain ⟨y, o, e, q1, q2, q3, q4, q5⟩ := r1
      exact ⟨y, o, e, q1, q2, q3, fun e => e, q5⟩
/-- the first statement, told by its own law; the rest as it stands -/
theorem sw_run {Γ : Ctx} {ts tu : TS} {ρ : Env} {M : Env → Prop} {σ : St} {G H : Hp} {D : Ends} (h : SW Γ ts ρ { nx := M, rt := fun _ => False, bk := fun _ => False, ct := fun _ => False, xr := fun _ _ _ _ => False }) (k : Ok Γ G H σ ρ) (hn : ∀ ρ' σ' G' H', Ex G G' → Ok Γ G' H' σ' ρ' → M ρ' → tu D σ' H') : tSeq ts tu D σ H :=
  h σ G H { D with nx := tu D } k hn (fun _ _ _ _ _ _ _ _ z => z.elim) (fun _ _ _ _ _ _ z => z.elim) (fun _ _ _ _ _ _ z => z.elim)
section
variable {Γ : Ctx} {ρ : Env} {te : TE} {Φ : D → Env → Prop} {Ψ : B → Env → Prop}
theorem rgV_rep {K : PySem.W.Frag} {G : Hp} {n : Int} : RepL K G (rgV 0 n) (rngD n.toNat) := by
  unfold rgV rngD
  rw [Int.sub_zero]
  have : ∀ xs : List Nat, RepL K G (xs.map fun i => V.int (0 + (i : Nat))) (xs.map fun (i : Nat) => D.int (i : Int)) := fun xs => by
    induction xs with
    | nil => exact .nil
    | cons x xs ih =>
      rw [List.map_cons, List.map_cons, Int.zero_add]
      exact .cons (.int _) ih
  exact this _
/-- list(range(e)) -/
theorem eb_listRg (h : EW Γ te ρ fun d ρ1 => ∃ n : Int, d = .int n ∧ (-100 ≤ n ∧ n ≤ 100000) ∧ Ψ (.ow (.lst (rngD n.toNat))) ρ1) : EB Γ (tLstRg (tRg1 te)) ρ Ψ := fun σ G H Q k q =>
  h σ G H _ k fun d ρ1 v G1 H1 e1 k1 r1 ⟨n, hd, ⟨b0, b1⟩, p⟩ => by
    subst hd
    cases r1
    exact ⟨n, rfl, ⟨by omega, by omega, by omega, by omega, by omega⟩, fun q' hq => q _ ρ1 _ _ _ e1 (k1.newO hq) (br_new k1 hq rgV_rep) p⟩
end
end Dl

/-! Tm: tuple * int, also once -/
namespace L2
open PySem PySem.Spec PyProof.Rows
theorem tuple_mul1W (l : Addr) (items : Array Value) (n : Nat) (dd : Option Addr) (sl : Array (Option Value)) (u : Tok) :
    Meets (Builtin.«tuple.__mul__» ⟨[.ref l, .int 1 u], []⟩) (fun _ R s => s.heap.get? l = some { cls := .type "tuple", dict := dd, data := .seq items n, slots := sl } ∧ R (.ok (.ret (Value.ref l))) s) :=
  .of_wp fun prog w A R s h => by
    obtain ⟨hp, g, d, tk, os⟩ := s
    obtain ⟨hl, h⟩ := h
    have f1 := AutoSeq1.idx_int
    wp_walk using wpAny_loadPart' hl
    repeat (first
      | (refine wpAny_ite_false (decide_eq_false (by decide)) ?_; wp_walk using wpAny_loadPart' hl)
      | (refine wpAny_ite_true (by simp) ?_; wp_walk using wpAny_loadPart' hl))
    exact ⟨_, rfl, h⟩
theorem tuple_mul0W (l : Addr) (items : Array Value) (n : Nat) (dd : Option Addr) (sl : Array (Option Value)) (u : Tok) (hi : items.isEmpty = false) :
    Meets (Builtin.«tuple.__mul__» ⟨[.ref l, .int 0 u], []⟩) (fun _ R s => s.heap.get? l = some { cls := .type "tuple", dict := dd, data := .seq items n, slots := sl } ∧
      R (.ok (.ret (Value.ref s.heap.objs.size))) { s with heap := s.heap.push { cls := Value.type "tuple", data := Data.seq #[] }, toks := s.toks }) :=
  .of_wp fun prog w A R s h => by
    obtain ⟨hp, g, d, tk, os⟩ := s
    obtain ⟨hl, h⟩ := h
    have f1 := AutoSeq1.idx_int
    have c1 : (items.isEmpty || (0 : Int) == 1) = false := by rw [hi]; rfl
    wp_walk using wpAny_loadPart' hl
    repeat (first
      | (refine wpAny_ite_false (decide_eq_false (by decide)) ?_; wp_walk using wpAny_loadPart' hl)
      | (refine wpAny_ite_false (decide_eq_false (by rw [c1]; exact Bool.false_ne_true)) ?_; wp_walk using wpAny_loadPart' hl)
      | (refine wpAny_ite_true (by simp) ?_; wp_walk using wpAny_loadPart' hl))
    exact ⟨_, rfl, h⟩
def rRepT1 (K : PySem.W.Frag) : R2 := fun x y H Q => ∃ l k xs, x = .ref l ∧ y = .int k ∧ SqT K H l xs ∧ xs ≠ [] ∧ 0 ≤ k ∧ k ≤ 1000 ∧ xs.length ≤ 1000 ∧ (k = 1 → Q (.ref l) H) ∧ (k ≠ 1 → ∀ p, H p = none → Q (.ref p) (upd H p (.tup (List.replicate k.toNat xs).flatten)))
theorem op_repT1 {X : Cx} : OpR X (binaryOp .Mult) (rRepT1 X.K) := by
  intro pins s σ H x y v u Q I rx ry h
  obtain ⟨l, k, xs, rfl, rfl, hT, hne, h1, h2, hz, q1, q2⟩ := h
  by_cases hk : k = 1
  · subst hk
    cases rx
    obtain ⟨t, rfl⟩ := ry
    obtain ⟨its, r, ⟨⟨cls, dd, data, sl⟩, ho, hc, n, hd⟩, hs⟩ := I.tuple hT
    simp only at hc hd
    subst hc hd
    refine wpAny_binaryOp_repeat_ref (T := "tuple") (U := "int") (by decide) ⟨_, ho, rfl⟩ (fun s' => typeIs_int s' 1 t) noFill_tuple_mul F.fills_int_mul F.slot_int_rmul repeat_tuple F.slot_int_index.lookup
      (call_meets F.slot_int_rmul (typeIs_int s 1 t) F.entry_int_rmul (F.args_int_rmul_2 _ _) (int_rmul_tuple 1 t l its.toArray n dd sl)
        ⟨ho, rfl, ⟨_, ho, rfl⟩, call_meets F.slot_tuple_mul ⟨_, ho, rfl⟩ F.entry_tuple_mul (F.args_tuple_mul_2 _ _) (tuple_mul1W l its.toArray n dd sl t) ⟨ho, ?_⟩⟩)
    exact ⟨.ref l, H, I, rfl, q1 rfl⟩
  · by_cases hk0 : k = 0
    · subst hk0
      cases rx
      obtain ⟨t, rfl⟩ := ry
      obtain ⟨its, r, ⟨⟨cls, dd, data, sl⟩, ho, hc, n, hd⟩, hs⟩ := I.tuple hT
      simp only at hc hd
      subst hc hd
      have hi : its.toArray.isEmpty = false := by
        cases its with
        | nil => exact absurd (List.eq_nil_of_length_eq_zero r.length) hne
        | cons a b => rfl
      refine wpAny_binaryOp_repeat_ref (T := "tuple") (U := "int") (by decide) ⟨_, ho, rfl⟩ (fun s' => typeIs_int s' 0 t) noFill_tuple_mul F.fills_int_mul F.slot_int_rmul repeat_tuple F.slot_int_index.lookup
        (call_meets F.slot_int_rmul (typeIs_int s 0 t) F.entry_int_rmul (F.args_int_rmul_2 _ _) (int_rmul_tuple 0 t l its.toArray n dd sl)
          ⟨ho, rfl, ⟨_, ho, rfl⟩, call_meets F.slot_tuple_mul ⟨_, ho, rfl⟩ F.entry_tuple_mul (F.args_tuple_mul_2 _ _) (tuple_mul0W l its.toArray n dd sl t hi) ⟨ho, ?_⟩⟩)
      refine ⟨.ref s.heap.objs.size, _, I.laid (t' := s.toks) (o := .tup []) (fun b ob q => Heap.get?_push_of_some _ q) (Nat.le_refl _) ?_, rfl, q2 (by decide) _ (I.hok.fresh (Nat.le_refl _))⟩
      exact ⟨Nat.zero_le _, [], .nil, IsTup.new _ _⟩
    · exact op_repT pins s σ H _ _ v u Q I rx ry ⟨l, k, xs, rfl, rfl, hT, hne, by omega, h2, hz, q2 hk⟩
end L2
namespace Dl
open PySem L2
open Evl (Ex)
/-- t * k, t a tuple -/
theorem ew_repT {Γ : Ctx} {K : PySem.W.Frag} {ρ : Env} {ta tb : TE} {Φ : D → Env → Prop} (hK : K = Γ.K) (h : EW Γ ta ρ fun x ρ1 => EW Γ tb ρ1 fun y ρ2 => ∃ ds k, x = .tup ds ∧ y = .int k ∧ ds ≠ [] ∧ 0 ≤ k ∧ k ≤ 1000 ∧ ds.length ≤ 1000 ∧ Φ (.tup (List.replicate k.toNat ds).flatten) ρ2) : EW Γ (tOp (rRepT1 K) ta tb) ρ Φ := fun σ G H Q k q =>
  h σ G H _ k fun x ρ1 vx G1 H1 e1 k1 r1 h1 => h1 σ G1 H1 _ k1 fun y ρ2 vy G2 H2 e2 k2 r2 ⟨ds, n, hx, hy, hne, n1, n2, hl, p⟩ => by
    subst hx hy hK
    cases r2
    have r1' := r1.mono e2
    cases r1' with
    | @tup a vs _ hq hs =>
      refine ⟨a, n, vs, rfl, rfl, sq_up k2.gh hq, fun e => hne ?_, n1, n2, by rw [hs.length]; exact hl, fun en => ?_, fun _ c hc => ?_⟩
      · subst e
        cases hs
        rfl
      · subst en
        have e : (List.replicate (1 : Int).toNat ds).flatten = ds := by
          show [ds].flatten = ds
          simp
        rw [e] at p
        exact q _ ρ2 _ G2 H2 (e1.trans e2) k2 (.tup hq hs) p
      · obtain ⟨k4, e4⟩ := k2.new (o := .tup (List.replicate n.toNat vs).flatten) hc
        exact q _ ρ2 _ _ _ ((e1.trans e2).trans e4) k4 (.tup (SqT.of upd_same) ((hs.mono e4).flat _)) p
end Dl

/-! Rw: rows by steps, both ways: sums of a window, shifts as rows of numbers -/
namespace Rw
/-- the sum of v's members times what stands from j on -/
def ev : List Int → (Int → Int) → Int → Int
  | [], _, _ => 0
  | x :: v, w, j => x * w j + ev v w (j + 1)
def Rec (f : List Int) (w : Int → Int) : Prop := ∀ k : Int, w (k + (f.length : Int)) = ev f w k
theorem ev_app : ∀ {u v : List Int} {w : Int → Int} {j : Int}, ev (u ++ v) w j = ev u w j + ev v w (j + (u.length : Int))
  | [], v, w, j => by show ev v w j = 0 + ev v w (j + 0); rw [Int.add_zero, Int.zero_add]
  | x :: u, v, w, j => by
    show x * w j + ev (u ++ v) w (j + 1) = x * w j + ev u w (j + 1) + ev v w (j + ((u.length + 1 : Nat) : Int))
    rw [ev_app, show j + 1 + (u.length : Int) = j + ((u.length + 1 : Nat) : Int) by omega, Int.add_assoc]
theorem ev_lin {c : Int} : ∀ {a b : List Int} {w : Int → Int} {j : Int}, a.length = b.length → ev (List.zipWith (fun m x => m + c * x) a b) w j = ev a w j + c * ev b w j
  | [], [], w, j, _ => by show (0 : Int) = 0 + c * 0; grind
  | x :: a, y :: b, w, j, h => by
    show (x + c * y) * w j + ev (List.zipWith _ a b) w (j + 1) = x * w j + ev a w (j + 1) + c * (y * w j + ev b w (j + 1))
    rw [ev_lin (Nat.succ.inj h)]
    grind
  | [], _ :: _, _, _, h => by cases h
  | _ :: _, [], _, _, h => by cases h
theorem ev_neg : ∀ {a : List Int} {w : Int → Int} {j : Int}, ev (a.map fun x => -x) w j = - ev a w j
  | [], _, _ => rfl
  | x :: a, w, j => by
    show -x * w j + ev (a.map fun x => -x) w (j + 1) = -(x * w j + ev a w (j + 1))
    rw [ev_neg]
    grind
theorem ev_zero {w : Int → Int} : ∀ {n : Nat} {j : Int}, ev (List.replicate n 0) w j = 0
  | 0, _ => rfl
  | n + 1, j => by
    show 0 * w j + ev (List.replicate n 0) w (j + 1) = 0
    rw [ev_zero]
    grind
/-- one step on -/
def fwd (f v : List Int) : List Int := List.zipWith (fun m x => m + v.getD (v.length - 1) 0 * x) (0 :: v.dropLast) f
/-- one step back -/
def bck (f v : List Int) : List Int := List.zipWith (fun m x => m + (v.headD 0 * f.headD 0) * x) (v.tail ++ [0]) ((f.tail.map fun x => -x) ++ [1])
theorem last_split {v : List Int} (h : v ≠ []) : ∃ u l, v = u ++ [l] ∧ v.dropLast = u ∧ v.getD (v.length - 1) 0 = l := by
  refine ⟨v.dropLast, v.getLast h, (List.dropLast_concat_getLast h).symm, rfl, ?_⟩
  rw [List.getD_eq_getElem?_getD, ← List.getLast?_eq_getElem?, List.getLast?_eq_some_getLast h]
  rfl
theorem fwd_len {f v : List Int} (hl : v.length = f.length) (hne : v ≠ []) : (fwd f v).length = f.length := by
  obtain ⟨u, l, rfl, e1, e2⟩ := last_split hne
  unfold fwd
  rw [List.length_zipWith, e1, List.length_cons]
  rw [List.length_append] at hl
  have : ([l] : List Int).length = 1 := rfl
  omega
theorem ev_fwd {f v : List Int} {w : Int → Int} {j : Int} (h : Rec f w) (hl : v.length = f.length) (hne : v ≠ []) : ev (fwd f v) w j = ev v w (j + 1) := by
  obtain ⟨u, l, rfl, e1, e2⟩ := last_split hne
  unfold fwd
  rw [e1, e2]
  have hlu : (0 :: u).length = f.length := by
    rw [List.length_append] at hl
    have : ([l] : List Int).length = 1 := rfl
    rw [List.length_cons]
    omega
  rw [ev_lin hlu, ← h j, ev_app]
  show 0 * w j + ev u w (j + 1) + l * w (j + (f.length : Int)) = ev u w (j + 1) + (l * w (j + 1 + (u.length : Int)) + 0)
  rw [show j + 1 + (u.length : Int) = j + (f.length : Int) by rw [← hlu, List.length_cons]; omega]
  grind
theorem bck_len {f v : List Int} (hl : v.length = f.length) (hne : v ≠ []) : (bck f v).length = f.length := by
  unfold bck
  cases v with
  | nil => exact absurd rfl hne
  | cons x u => cases f with
    | nil => cases hl
    | cons f0 g =>
      rw [List.length_zipWith]
      simp only [List.tail_cons, List.length_append, List.length_map, List.length_cons, List.length_nil] at hl ⊢
      omega
theorem ev_bck {f v : List Int} {w : Int → Int} {j : Int} (h : Rec f w) (hu : f.headD 0 * f.headD 0 = 1) (hl : v.length = f.length) (hne : v ≠ []) : ev (bck f v) w j = ev v w (j - 1) := by
  cases v with
  | nil => exact absurd rfl hne
  | cons x u => cases f with
    | nil => cases hl
    | cons f0 g =>
      have hl' : u.length = g.length := Nat.succ.inj hl
      unfold bck
      rw [ev_lin (by simp [hl'])]
      simp only [List.tail_cons, List.headD_cons]
      have hu : f0 * f0 = 1 := hu
      rw [ev_app, ev_app, ev_neg, List.length_map]
      have hr := h (j - 1)
      have e1 : ev (f0 :: g) w (j - 1) = f0 * w (j - 1) + ev g w (j - 1 + 1) := rfl
      have e2 : ev (x :: u) w (j - 1) = x * w (j - 1) + ev u w (j - 1 + 1) := rfl
      rw [e1, show j - 1 + 1 = j by omega, show j - 1 + ((f0 :: g).length : Int) = j + (g.length : Int) by rw [List.length_cons]; omega] at hr
      rw [e2, show j - 1 + 1 = j by omega]
      show ev u w j + (0 * w (j + (u.length : Int)) + 0) + x * f0 * (-ev g w j + (1 * w (j + (g.length : Int)) + 0)) = _
      rw [hr]
      grind
/-- a shift behind a shift -/
def bhd (f one : List Int) : List Int → List Int
  | [] => List.replicate f.length 0
  | c :: other => List.zipWith (fun a b => a + c * b) (fwd f (bhd f one other)) one
theorem bhd_len {f one : List Int} (h1 : one.length = f.length) (hne : f ≠ []) : ∀ {other : List Int}, (bhd f one other).length = f.length
  | [] => List.length_replicate
  | c :: other => by
    show (List.zipWith _ (fwd f (bhd f one other)) one).length = _
    have ih := bhd_len (f := f) h1 hne (other := other)
    rw [List.length_zipWith, fwd_len ih (fun e => hne (by rw [e] at ih; exact List.eq_nil_of_length_eq_zero ih.symm)), h1, Nat.min_self]
theorem ev_bhd {f one : List Int} {w : Int → Int} (h : Rec f w) (h1 : one.length = f.length) (hne : f ≠ []) : ∀ {other : List Int} {j : Int}, ev (bhd f one other) w j = ev other (fun i => ev one w i) j
  | [], j => ev_zero
  | c :: other, j => by
    have hl := bhd_len (f := f) h1 hne (other := other)
    have hn : bhd f one other ≠ [] := fun e => hne (by rw [e] at hl; exact List.eq_nil_of_length_eq_zero hl.symm)
    show ev (List.zipWith _ (fwd f (bhd f one other)) one) w j = c * ev one w j + ev other (fun i => ev one w i) (j + 1)
    rw [ev_lin (by rw [fwd_len hl hn, h1]), ev_fwd h hl hn, ev_bhd h h1 hne]
    grind
theorem ev_shift {v : List Int} {w : Int → Int} {a : Int} : ∀ {j : Int}, ev v (fun i => w (i + a)) j = ev v w (j + a) := by
  induction v with
  | nil => intro j; rfl
  | cons x v ih =>
    intro j
    show x * w (j + a) + ev v (fun i => w (i + a)) (j + 1) = x * w (j + a) + ev v w (j + a + 1)
    rw [ih, show j + 1 + a = j + a + 1 by omega]
/-- v is the shift by k -/
structure Sh (f : List Int) (k : Int) (v : List Int) : Prop where
  len : v.length = f.length
  at_ : ∀ w, Rec f w → ∀ j, ev v w j = w (j + k)
theorem sh_none {f : List Int} (hne : f ≠ []) : Sh f 0 (1 :: List.replicate (f.length - 1) 0) := by
  refine ⟨?_, fun w h j => ?_⟩
  · rw [List.length_cons, List.length_replicate]
    cases f with
    | nil => exact absurd rfl hne
    | cons _ _ => simp
  · show 1 * w j + ev (List.replicate _ 0) w (j + 1) = w (j + 0)
    rw [ev_zero, Int.add_zero]
    grind
theorem sh_ne {f v : List Int} {k : Int} (hne : f ≠ []) (h : Sh f k v) : v ≠ [] := fun e => hne (by
  have := h.len
  rw [e] at this
  exact List.eq_nil_of_length_eq_zero this.symm)
theorem sh_fwd {f v : List Int} {k : Int} (hne : f ≠ []) (h : Sh f k v) : Sh f (k + 1) (fwd f v) := ⟨fwd_len h.len (sh_ne hne h), fun w hw j => by
  rw [ev_fwd hw h.len (sh_ne hne h), h.at_ w hw, show j + 1 + k = j + (k + 1) by omega]⟩
theorem sh_bck {f v : List Int} {k : Int} (hne : f ≠ []) (hu : f.headD 0 * f.headD 0 = 1) (h : Sh f k v) : Sh f (k - 1) (bck f v) := ⟨bck_len h.len (sh_ne hne h), fun w hw j => by
  rw [ev_bck hw hu h.len (sh_ne hne h), h.at_ w hw, show j - 1 + k = j + (k - 1) by omega]⟩
theorem sh_bhd {f a b : List Int} {k l : Int} (hne : f ≠ []) (h1 : Sh f k a) (h2 : Sh f l b) : Sh f (k + l) (bhd f a b) := ⟨bhd_len h1.len hne, fun w hw j => by
  rw [ev_bhd hw h1.len hne]
  have e : (fun i => ev a w i) = fun i => w (i + k) := funext fun i => h1.at_ w hw i
  rw [e, ev_shift, h2.at_ w hw, show j + k + l = j + (k + l) by omega]⟩
/-! the row itself, both ways -/
def dot (a b : List Int) : Int := (List.zipWith (fun x y => x * y) a b).sum
def fw (f S : List Int) : List Int := S.tail ++ [dot f S]
def bw (f S : List Int) : List Int := (f.headD 0 * (S.getD (S.length - 1) 0 - dot f.tail S.dropLast)) :: S.dropLast
def iter (g : List Int → List Int) : Nat → List Int → List Int
  | 0, S => S
  | n + 1, S => g (iter g n S)
def T (f S : List Int) : Int → List Int
  | .ofNat n => iter (fw f) n S
  | .negSucc n => iter (bw f) (n + 1) S
def sq (f S : List Int) (n : Int) : Int := (T f S n).headD 0
theorem fw_len {f S : List Int} (h : S ≠ []) : (fw f S).length = S.length := by
  unfold fw
  cases S with
  | nil => exact absurd rfl h
  | cons x S => simp
theorem bw_len {f S : List Int} (h : S ≠ []) : (bw f S).length = S.length := by
  unfold bw
  cases S with
  | nil => exact absurd rfl h
  | cons x S => simp
theorem T_len {f S : List Int} (h : S ≠ []) : ∀ n, (T f S n).length = S.length := by
  have hp : 0 < S.length := List.length_pos_iff.mpr h
  have key : ∀ (g : List Int → List Int), (∀ U : List Int, U ≠ [] → (g U).length = U.length) → ∀ n, (iter g n S).length = S.length := fun g hg n => by
    induction n with
    | zero => rfl
    | succ n ih =>
      show (g (iter g n S)).length = _
      rw [hg _ (fun e => by rw [e] at ih; simp at ih; omega), ih]
  intro n
  cases n with
  | ofNat n => exact key _ (fun U hU => fw_len hU) n
  | negSucc n => exact key _ (fun U hU => bw_len hU) (n + 1)
theorem fw_bw {f S : List Int} (hu : f.headD 0 * f.headD 0 = 1) (hl : S.length = f.length) (hne : f ≠ []) : fw f (bw f S) = S := by
  cases f with
  | nil => exact absurd rfl hne
  | cons f0 g =>
    have hS : S ≠ [] := fun e => by rw [e] at hl; cases hl
    obtain ⟨u, l, rfl, e1, e2⟩ := last_split hS
    unfold fw bw
    rw [e1, e2]
    simp only [List.tail_cons, List.headD_cons]
    have hu : f0 * f0 = 1 := hu
    have e3 : dot (f0 :: g) (f0 * (l - dot g u) :: u) = l := by
      unfold dot
      simp only [List.zipWith_cons_cons, List.sum_cons]
      grind
    rw [e3]
theorem T_succ {f S : List Int} (hu : f.headD 0 * f.headD 0 = 1) (hl : S.length = f.length) (hne : f ≠ []) : ∀ n : Int, T f S (n + 1) = fw f (T f S n)
  | .ofNat n => rfl
  | .negSucc n => by
    have hS : S ≠ [] := fun e => hne (by rw [e] at hl; exact List.eq_nil_of_length_eq_zero hl.symm)
    cases n with
    | zero =>
      show S = fw f (bw f S)
      rw [fw_bw hu hl hne]
    | succ n =>
      have e : (Int.negSucc (n + 1) + 1) = Int.negSucc n := by omega
      rw [e]
      show T f S (Int.negSucc n) = fw f (bw f (T f S (Int.negSucc n)))
      rw [fw_bw hu (by rw [T_len hS]; exact hl) hne]
theorem T_at {f S : List Int} (hu : f.headD 0 * f.headD 0 = 1) (hl : S.length = f.length) (hne : f ≠ []) : ∀ (i : Nat) (n : Int), i < f.length → (T f S n).getD i 0 = sq f S (n + (i : Int)) := by
  have hS : S ≠ [] := fun e => hne (by rw [e] at hl; exact List.eq_nil_of_length_eq_zero hl.symm)
  intro i
  induction i with
  | zero =>
    intro n _
    unfold sq
    rw [show n + ((0 : Nat) : Int) = n by omega]
    cases T f S n <;> rfl
  | succ i ih =>
    intro n hi
    have e : (T f S n).getD (i + 1) 0 = (T f S (n + 1)).getD i 0 := by
      rw [T_succ hu hl hne]
      have hlT := T_len (f := f) hS n
      unfold fw
      cases hT : T f S n with
      | nil => rw [hT] at hlT; simp at hlT; omega
      | cons x U =>
        rw [hT, List.length_cons] at hlT
        have hiU : i < U.length := by omega
        simp only [List.tail_cons, List.getD_cons_succ, List.getD_eq_getElem?_getD]
        rw [List.getElem?_append_left hiU]
        rfl
    rw [e, ih (n + 1) (by omega), show n + 1 + (i : Int) = n + ((i + 1 : Nat) : Int) by omega]
theorem ev_dot {w : Int → Int} : ∀ {f U : List Int} {n : Int}, f.length = U.length → (∀ i : Nat, i < U.length → U.getD i 0 = w (n + (i : Int))) → ev f w n = dot f U
  | [], [], _, _, _ => rfl
  | x :: f, y :: U, n, hl, h => by
    have h0 := h 0 (by simp)
    have e : ev f w (n + 1) = dot f U := ev_dot (Nat.succ.inj hl) fun i hi => by
      have := h (i + 1) (by simp; omega)
      rw [show n + 1 + (i : Int) = n + ((i + 1 : Nat) : Int) by omega, ← this]
      rfl
    show x * w n + ev f w (n + 1) = x * y + dot f U
    have h0' : y = w n := by
      rw [show n + ((0 : Nat) : Int) = n by omega] at h0
      exact h0
    rw [e, h0']
  | [], _ :: _, _, hl, _ => by cases hl
  | _ :: _, [], _, hl, _ => by cases hl
theorem sq_rec {f S : List Int} (hu : f.headD 0 * f.headD 0 = 1) (hl : S.length = f.length) (hne : f ≠ []) : Rec f (sq f S) := fun n => by
  have hS : S ≠ [] := fun e => hne (by rw [e] at hl; exact List.eq_nil_of_length_eq_zero hl.symm)
  have hp : 0 < f.length := List.length_pos_iff.mpr hne
  have hlT := T_len (f := f) hS n
  have e1 := ev_dot (w := sq f S) (f := f) (U := T f S n) (n := n) (by rw [hlT, hl]) fun i hi => T_at hu hl hne i n (by omega)
  have e2 := T_at hu hl hne (f.length - 1) (n + 1) (by omega)
  rw [T_succ hu hl hne] at e2
  rw [e1, show n + (f.length : Int) = n + 1 + ((f.length - 1 : Nat) : Int) by omega, ← e2]
  unfold fw
  cases hT : T f S n with
  | nil => rw [hT] at hlT; simp at hlT; omega
  | cons x U =>
    rw [hT, List.length_cons] at hlT
    have hU : f.length - 1 = U.length := by omega
    simp only [List.tail_cons, List.getD_eq_getElem?_getD, hU]
    rw [List.getElem?_append_right (Nat.le_refl _), Nat.sub_self]
    rfl
theorem sq_first {f S : List Int} (hu : f.headD 0 * f.headD 0 = 1) (hl : S.length = f.length) (hne : f ≠ []) {i : Nat} (hi : i < f.length) : S.getD i 0 = sq f S (i : Int) := by
  have := T_at (S := S) hu hl hne i 0 hi
  rw [Int.zero_add] at this
  exact this
end Rw

/-! Ry: how great the members of rows, shifts and windows are; rows by their first terms. Plain. -/
namespace Ry
open Rw
/-- no member as great as 2 ^ n -/
def Big (n : Nat) (v : List Int) : Prop := ∀ x ∈ v, x.natAbs < 2 ^ n
theorem pow_up {x n m : Nat} (h : x < 2 ^ n) (l : n ≤ m) : x < 2 ^ m := Nat.lt_of_lt_of_le h (Nat.pow_le_pow_right (by decide) l)
theorem big_mono {n m : Nat} {v : List Int} (h : Big n v) (l : n ≤ m) : Big m v := fun x hx => pow_up (h x hx) l
theorem big_getD {n : Nat} {v : List Int} (h : Big n v) (i : Nat) : (v.getD i 0).natAbs < 2 ^ n := by
  by_cases hi : i < v.length
  · exact h _ (by rw [List.getD_eq_getElem?_getD, List.getElem?_eq_getElem hi]; exact List.getElem_mem hi)
  · rw [List.getD_eq_getElem?_getD, List.getElem?_eq_none (by omega)]
    exact Nat.pos_of_ne_zero (fun e => by simp at e)
theorem big_headD {n : Nat} {v : List Int} (h : Big n v) : (v.headD 0).natAbs < 2 ^ n := by
  have := big_getD h 0
  cases v <;> exact this
theorem big_nil {n : Nat} : Big n [] := fun _ h => by cases h
theorem big_cons {n : Nat} {x : Int} {v : List Int} (h : x.natAbs < 2 ^ n) (hv : Big n v) : Big n (x :: v) := fun y hy => by
  rcases List.mem_cons.mp hy with rfl | hy
  · exact h
  · exact hv y hy
theorem big_app {n : Nat} {u v : List Int} (hu : Big n u) (hv : Big n v) : Big n (u ++ v) := fun y hy => by
  rcases List.mem_append.mp hy with hy | hy
  · exact hu y hy
  · exact hv y hy
theorem big_sub {n : Nat} {u v : List Int} (hv : Big n v) (h : ∀ x ∈ u, x ∈ v) : Big n u := fun y hy => hv y (h y hy)
theorem big_zero {n k : Nat} : Big n (List.replicate k 0) := fun y hy => by
  rw [(List.mem_replicate.mp hy).2]
  exact Nat.pos_of_ne_zero (fun e => by simp at e)
theorem big_tail {n : Nat} {v : List Int} (h : Big n v) : Big n v.tail := big_sub h fun x hx => List.mem_of_mem_tail hx
theorem big_dl {n : Nat} {v : List Int} (h : Big n v) : Big n v.dropLast := big_sub h fun x hx => List.dropLast_subset v hx
theorem add_bd {a b : Int} {n : Nat} (ha : a.natAbs < 2 ^ n) (hb : b.natAbs < 2 ^ n) : (a + b).natAbs < 2 ^ (n + 1) := by
  rw [Nat.pow_succ]
  omega
theorem mul_bd {a b : Int} {n m : Nat} (ha : a.natAbs < 2 ^ n) (hb : b.natAbs < 2 ^ m) : (a * b).natAbs < 2 ^ (n + m) := by
  rw [Int.natAbs_mul, Nat.pow_add]
  exact Nat.mul_lt_mul'' ha hb
theorem big_zip {n m k : Nat} {c : Int} {a b : List Int} (ha : Big n a) (hb : Big m b) (hc : c.natAbs < 2 ^ k) (hn : n ≤ k + m) : Big (k + m + 1) (List.zipWith (fun x y => x + c * y) a b) := fun z hz => by
  rw [List.mem_iff_getElem] at hz
  obtain ⟨i, hi, rfl⟩ := hz
  rw [List.getElem_zipWith]
  rw [List.length_zipWith] at hi
  exact add_bd (pow_up (ha _ (List.getElem_mem (by omega))) hn) (mul_bd hc (hb _ (List.getElem_mem (by omega))))
/-- the factors of a row -/
structure FOk (f : List Int) : Prop where
  ne : f ≠ []
  len : f.length ≤ 8
  unit : f.headD 0 * f.headD 0 = 1
  big : Big 20 f
theorem unit_abs {a : Int} (h : a * a = 1) : a.natAbs = 1 := by
  have e : a.natAbs * a.natAbs = 1 := by
    rw [← Int.natAbs_mul, h]
    rfl
  exact Nat.eq_one_of_mul_eq_one_left e
theorem fwd_big {f v : List Int} {n : Nat} (hf : Big 20 f) (hv : Big n v) : Big (n + 21) (fwd f v) := by
  unfold fwd
  have := big_zip (n := n) (m := 20) (k := n) (big_cons (x := 0) (Nat.pos_of_ne_zero (fun e => by simp at e)) (big_dl hv)) hf (big_getD hv (v.length - 1)) (by omega)
  exact this
theorem bck_big {f v : List Int} {n : Nat} (hf : Big 20 f) (hv : Big n v) : Big (n + 41) (bck f v) := by
  unfold bck
  have h1 : Big 20 ((f.tail.map fun x => -x) ++ [1]) := big_app (fun y hy => by
    obtain ⟨x, hx, rfl⟩ := List.mem_map.mp hy
    rw [Int.natAbs_neg]
    exact big_tail hf x hx) (big_cons (by decide) big_nil)
  have := big_zip (n := n) (m := 20) (k := n + 20) (big_app (big_tail hv) (big_cons (x := 0) (Nat.pos_of_ne_zero (fun e => by simp at e)) big_nil)) h1 (mul_bd (big_headD hv) (big_headD hf)) (by omega)
  exact this
theorem bhd_big {f one : List Int} {n m : Nat} (hf : Big 20 f) (h1 : Big n one) : ∀ {other : List Int}, Big m other → Big (n + m + 22 * other.length) (bhd f one other)
  | [], _ => big_zero
  | c :: other, h => by
    have ih := bhd_big (m := m) hf h1 (other := other) (fun x hx => h x (List.mem_cons_of_mem _ hx))
    show Big _ (List.zipWith _ (fwd f (bhd f one other)) one)
    have e := fwd_big hf ih
    intro z hz
    rw [List.mem_iff_getElem] at hz
    obtain ⟨i, hi, rfl⟩ := hz
    rw [List.getElem_zipWith]
    rw [List.length_zipWith] at hi
    refine pow_up (add_bd (n := n + m + 22 * other.length + 21) (e _ (List.getElem_mem (by omega))) (pow_up (mul_bd (h c List.mem_cons_self) (h1 _ (List.getElem_mem (by omega)))) (by omega))) ?_
    rw [List.length_cons]
    omega
theorem dot_bd {n m : Nat} : ∀ {a b : List Int}, Big n a → Big m b → (dot a b).natAbs ≤ a.length * 2 ^ (n + m)
  | [], _, _, _ => by
    unfold dot
    simp
  | _ :: _, [], _, _ => by
    unfold dot
    simp
  | x :: a, y :: b, ha, hb => by
    have ih := dot_bd (a := a) (b := b) (fun z hz => ha z (List.mem_cons_of_mem _ hz)) (fun z hz => hb z (List.mem_cons_of_mem _ hz))
    have e : dot (x :: a) (y :: b) = x * y + dot a b := by
      unfold dot
      rw [List.zipWith_cons_cons, List.sum_cons]
    have h := mul_bd (ha x List.mem_cons_self) (hb y List.mem_cons_self)
    rw [e, List.length_cons, Nat.succ_mul]
    omega
theorem dot_big {n m : Nat} {a b : List Int} (ha : Big n a) (hb : Big m b) (hl : a.length ≤ 8) : (dot a b).natAbs < 2 ^ (n + m + 4) := by
  have := dot_bd ha hb
  have h2 : a.length * 2 ^ (n + m) ≤ 8 * 2 ^ (n + m) := Nat.mul_le_mul_right _ hl
  have h3 : 0 < 2 ^ (n + m) := Nat.pos_of_ne_zero (fun e => by simp at e)
  rw [Nat.pow_add _ _ 4]
  omega
theorem fw_big {f U : List Int} {n : Nat} (hf : FOk f) (hU : Big n U) : Big (n + 26) (fw f U) := by
  unfold fw
  exact big_app (big_mono (big_tail hU) (by omega)) (big_cons (pow_up (dot_big hf.big hU hf.len) (by omega)) big_nil)
theorem tl_len {α : Type} {f : List α} (n : Nat) (h : f.length ≤ n) : f.tail.length ≤ n := by
  rw [List.length_tail]
  omega
theorem bw_big {f U : List Int} {n : Nat} (hf : FOk f) (hU : Big n U) : Big (n + 26) (bw f U) := by
  unfold bw
  refine big_cons ?_ (big_mono (big_dl hU) (by omega))
  rw [Int.natAbs_mul, unit_abs hf.unit, Nat.one_mul]
  have h1 := dot_big (big_tail hf.big) (big_dl hU) (tl_len 8 hf.len)
  have h2 := pow_up (big_getD hU (U.length - 1)) (show n ≤ 20 + n + 4 by omega)
  have := add_bd h2 (b := - dot f.tail U.dropLast) (by rw [Int.natAbs_neg]; exact h1)
  rw [← Int.sub_eq_add_neg] at this
  exact pow_up this (by omega)
theorem iter_big {g : List Int → List Int} (hg : ∀ U n, Big n U → Big (n + 26) (g U)) {S : List Int} {b : Nat} (hS : Big b S) : ∀ n : Nat, Big (b + 26 * n) (iter g n S)
  | 0 => hS
  | n + 1 => big_mono (hg _ _ (iter_big hg hS n)) (by omega)
theorem T_big {f S : List Int} {b : Nat} (hf : FOk f) (hS : Big b S) : ∀ n : Int, Big (b + 26 * n.natAbs) (T f S n)
  | .ofNat n => iter_big (fun U n h => fw_big hf h) hS n
  | .negSucc n => iter_big (fun U n h => bw_big hf h) hS (n + 1)
theorem sq_big {f S : List Int} {b : Nat} (hf : FOk f) (hS : Big b S) (n : Int) : (sq f S n).natAbs < 2 ^ (b + 26 * n.natAbs) := big_headD (T_big hf hS n)
theorem sh_ex {f : List Int} (hf : FOk f) : ∀ k : Int, ∃ v, Rw.Sh f k v
  | .ofNat n => by
    induction n with
    | zero => exact ⟨_, sh_none hf.ne⟩
    | succ n ih =>
      obtain ⟨v, h⟩ := ih
      exact ⟨_, sh_fwd hf.ne h⟩
  | .negSucc n => by
    induction n with
    | zero => exact ⟨_, sh_bck hf.ne hf.unit (sh_none hf.ne)⟩
    | succ n ih =>
      obtain ⟨v, h⟩ := ih
      have e : Int.negSucc (n + 1) = Int.negSucc n - 1 := by omega
      rw [e]
      exact ⟨_, sh_bck hf.ne hf.unit h⟩
theorem ev_first {f S v : List Int} {w : Int → Int} (hl : S.length = f.length) (hv : v.length = f.length) (h : ∀ i : Nat, i < f.length → S.getD i 0 = w (i : Int)) : ev v w 0 = dot v S :=
  ev_dot (hv.trans hl.symm) fun i hi => by
    rw [Int.zero_add]
    exact h i (by omega)
theorem sh_dot {f S v : List Int} {k : Int} (hf : FOk f) (hl : S.length = f.length) (h : Rw.Sh f k v) : dot v S = sq f S k := by
  rw [← ev_first hl h.len (fun i hi => sq_first hf.unit hl hf.ne hi), h.at_ _ (sq_rec hf.unit hl hf.ne), Int.zero_add]
/-- a row is told by its first terms -/
theorem rec_sq {f S : List Int} {w : Int → Int} (hf : FOk f) (hl : S.length = f.length) (hw : Rec f w) (h : ∀ i : Nat, i < f.length → S.getD i 0 = w (i : Int)) (k : Int) : w k = sq f S k := by
  obtain ⟨v, hv⟩ := sh_ex hf k
  rw [← sh_dot hf hl hv, ← ev_first hl hv.len h, hv.at_ w hw, Int.zero_add]
end Ry

/-! En: enumerate of a tuple; reversed of a tuple, as heads of loops and of comprehensions. -/
namespace En
open PySem PySem.Spec PyProof.Rows L2
open PySem.Sem (wp)
theorem meets_enumerate_newT (l : Addr) (items : Array Value) :
    Meets (Builtin.«enumerate.__new__» ⟨[.type "enumerate", .ref l], []⟩) (fun _ R s => s.heap.IsTuple l items ∧
      R (.ok (.ret (.ref (s.heap.push { cls := .type "tuple_iterator", data := .fields #[.ref l, .int 0 0] }).objs.size)))
        { s with heap := (s.heap.push { cls := .type "tuple_iterator", data := .fields #[.ref l, .int 0 0] }).push { cls := .type "enumerate", data := .fields #[.none, .bool false, .ref s.heap.objs.size, rawInt 0, .none, .none] } }) :=
  .of_wp fun prog w A R s h => by
    obtain ⟨hp, g, d, tk, os⟩ := s; obtain ⟨hl, h⟩ := h
    have hsub := sub_enumerate
    have hL : Heap.IsTuple (Shared.heap ⟨hp, g, d, tk, os⟩) l items := hl
    wp_walk
    refine wpAny_stack_any fun st => wpAny_pure ?_
    split
    · rename_i c _ _ _ _ _
      cases (c == Value.type "enumerate")
      · wp_walk using wpAny_pyIter_tuple hL
        exact ⟨_, rfl, h⟩
      · wp_walk using wpAny_pyIter_tuple hL
        exact ⟨_, rfl, h⟩
    · wp_walk using wpAny_pyIter_tuple hL
      exact ⟨_, rfl, h⟩
section
variable {prog : Program} {w : World} {A : Around} {E : Value → Shared → Prop} {s : Shared}
theorem call_enumerate_tuple {l : Addr} {items : Array Value} {Q : Value → Shared → Prop} (hL : s.heap.IsTuple l items)
    (h : ∀ h', IsEnum h' (s.heap.objs.size + 1) s.heap.objs.size 0 .none → h'.IsTupleIter s.heap.objs.size l 0 → h'.objs.size = s.heap.objs.size + 2 →
      (∀ b o, s.heap.get? b = some o → h'.get? b = some o) → Q (.ref (s.heap.objs.size + 1)) { s with heap := h' }) :
    wpAny (model prog w) A (call (.type "enumerate") [.ref l]) Q E s := by
  refine callType_new F.called_enumerate (by decide) (F.typeCall_enumerate_1 _) (F.newCall_enumerate_1 _) (fun obj => F.args_object_init_2 obj _) F.entry_enumerate_new
    (meets_enumerate_newT l items) ⟨hL, ?_⟩
  have hz : (s.heap.push { cls := .type "tuple_iterator", data := .fields #[.ref l, .int 0 0] }).objs.size = s.heap.objs.size + 1 := Heap.size_push ..
  show _ ∧ _
  rw [hz]
  have he : IsEnum ((s.heap.push { cls := .type "tuple_iterator", data := .fields #[.ref l, .int 0 0] }).push
      { cls := .type "enumerate", data := .fields #[.none, .bool false, .ref s.heap.objs.size, rawInt 0, .none, .none] }) (s.heap.objs.size + 1) s.heap.objs.size 0 .none := by
    have := Heap.get?_push_size (s.heap.push { cls := .type "tuple_iterator", data := .fields #[.ref l, .int 0 0] })
      (o := { cls := .type "enumerate", data := .fields #[.none, .bool false, .ref s.heap.objs.size, rawInt 0, .none, .none] }) rfl
    rw [hz] at this; exact this
  refine ⟨⟨_, he, rfl⟩, h _ he ⟨_, Heap.get?_push_of_some _ (Heap.get?_push_size _ rfl), rfl, rfl⟩ (by rw [Heap.size_push, hz]) fun b o x => Heap.get?_push_of_some _ (Heap.get?_push_of_some _ x)⟩
theorem enumT_next_item {e it l : Addr} {i : Nat} {items : Array Value} {x old : Value} {Q : Value → Shared → Prop}
    (he : IsEnum s.heap e it i old) (hit : s.heap.IsTupleIter it l i) (hl : s.heap.IsTuple l items) (hx : items[i]? = some x) (hne : e ≠ it)
    (hQ : ∀ h', IsEnumOut h' e it ((i : Int) + 1) x s.heap.objs.size → h'.IsTupleIter it l (i + 1) →
      h'.get? s.heap.objs.size = some { cls := .type "tuple", data := .seq #[.int i s.toks, x] } → h'.objs.size = s.heap.objs.size + 1 →
      (∀ b o, b ≠ e → b ≠ it → s.heap.get? b = some o → h'.get? b = some o) → Q (.ref s.heap.objs.size) { s with heap := h', toks := s.toks + 1 }) :
    wpAny (model prog w) A (Builtin.«enumerate.__next__» ⟨[.ref e], []⟩) (fun fin s' => ∃ v, fin = .done (.ret v) ∧ Q v s') E s := by
  obtain ⟨hp, g, d, tk, os⟩ := s
  show wpAny _ _ (field (.ref e) 2 >>= _) _ _ _
  refine wpAny_bind (wpAny_field he rfl (x := .ref it) rfl ?_)
  refine wpAny_bind (RZ.nextOf_tuple_item hit hl hx fun h₁ hit₁ hs₁ => ?_)
  replace hs₁ : Heap.SameBut it hp h₁ := hs₁
  have he₁ : IsEnum h₁ e it i old := (hs₁.2 e hne).trans he
  show wpAny _ _ (field (.ref e) 3 >>= _) _ _ ⟨h₁, g, d, tk, os⟩
  refine wpAny_bind (wpAny_field he₁ rfl (x := rawInt i) rfl ?_)
  show wpAny _ _ (field (.ref e) 4 >>= _) _ _ ⟨h₁, g, d, tk, os⟩
  refine wpAny_bind (wpAny_field he₁ rfl (x := .none) rfl ?_)
  show wpAny _ _ (mkInt i >>= _) _ _ ⟨h₁, g, d, tk, os⟩
  refine wpAny_bind (wpAny_mkInt ?_)
  show wpAny _ _ (setField (.ref e) 3 (rawInt ((i : Int) + 1)) >>= _) _ _ ⟨h₁, g, d, tk + 1, os⟩
  refine wpAny_bind (wpAny_setField_rec he₁ (by simp) fun h₂ he₂ hs₂ => ?_)
  replace hs₂ : Heap.SameBut e h₁ h₂ := hs₂
  replace he₂ : IsEnum h₂ e it ((i : Int) + 1) old := he₂
  show wpAny _ _ (setField (.ref e) 4 .none >>= _) _ _ ⟨h₂, g, d, tk + 1, os⟩
  refine wpAny_bind (wpAny_setField_rec he₂ (by simp) fun h₃ he₃ hs₃ => ?_)
  replace hs₃ : Heap.SameBut e h₂ h₃ := hs₃
  replace he₃ : IsEnum h₃ e it ((i : Int) + 1) old := he₃
  show wpAny _ _ (newTuple [.int i tk, x] >>= _) _ _ ⟨h₃, g, d, tk + 1, os⟩
  refine wpAny_bind (wpAny_newTuple ?_)
  have he₄ : IsEnum (h₃.push { cls := .type "tuple", data := .seq #[.int i tk, x] }) e it ((i : Int) + 1) old := Heap.get?_push_of_some _ he₃
  generalize hh₄ : h₃.push { cls := .type "tuple", data := .seq #[.int i tk, x] } = h₄ at he₄
  have hsz : h₃.objs.size = hp.objs.size := by rw [hs₃.1, hs₂.1, hs₁.1]
  have hel : e < hp.objs.size := Heap.lt_size he
  have ht₄ : h₄.get? hp.objs.size = some { cls := .type "tuple", data := .seq #[.int i tk, x] } := by rw [← hh₄, ← hsz]; exact Heap.get?_push_size _ rfl
  have hz₄ : h₄.objs.size = hp.objs.size + 1 := by rw [← hh₄, Heap.size_push, hsz]
  have hk₄ : ∀ b o, b ≠ e → b ≠ it → hp.get? b = some o → h₄.get? b = some o := fun b o hbe hbi hb => by
    rw [← hh₄]; exact Heap.get?_push_of_some _ (hs₃.extBut b o hbe (hs₂.extBut b o hbe (hs₁.extBut b o hbi hb)))
  have hit₄ : h₄.IsTupleIter it l (i + 1) := by
    rw [← hh₄]; obtain ⟨o, ho, r⟩ := (hit₁.extBut hs₂.extBut (Ne.symm hne)).extBut hs₃.extBut (Ne.symm hne); exact ⟨o, Heap.get?_push_of_some _ ho, r⟩
  show wpAny _ _ (Builtin.SmallTypes.ownedTupleIsFree (.ref e) >>= _) _ _ ⟨h₄, g, d, tk + 1, os⟩
  rw [hsz]
  clear hh₄ he₃ hs₃ he₂ hs₂ he₁ hs₁ hit₁ hsz h₃ h₂ h₁
  refine wpAny_bind ?_
  · unfold Builtin.SmallTypes.ownedTupleIsFree
    refine wpAny_bind (wpAny_field he₄ rfl (x := .none) rfl (wpAny_pure ?_))
    simp only [if_true]
    refine wpAny_bind (wpAny_rule ?_)
    refine wpAny_bind (wpAny_field he₄ rfl (x := old) rfl ?_)
    refine wpAny_bind (wpAny_setField_rec he₄ (by simp) fun h₅ he₅ hs₅ => ?_)
    replace hs₅ : Heap.SameBut e h₄ h₅ := hs₅
    replace he₅ : IsEnum h₅ e it ((i : Int) + 1) x := he₅
    show wpAny _ _ (Builtin.SmallTypes.ownedTupleHandOut (.ref e) (.ref hp.objs.size) >>= _) _ _ ⟨h₅, g, d, tk + 1, os⟩
    refine wpAny_bind ?_
    · unfold Builtin.SmallTypes.ownedTupleHandOut
      refine wpAny_bind (wpAny_setField_rec he₅ (by simp) fun h₆ he₆ hs₆ => ?_)
      replace hs₆ : Heap.SameBut e h₅ h₆ := hs₆
      replace he₆ : IsEnumOut h₆ e it ((i : Int) + 1) x hp.objs.size := he₆
      refine wpAny_setField_rec he₆ (by simp) fun h₇ he₇ hs₇ => ?_
      replace hs₇ : Heap.SameBut e h₆ h₇ := hs₇
      replace he₇ : IsEnumOut h₇ e it ((i : Int) + 1) x hp.objs.size := he₇
      refine wpAny_bind (wpAny_letGo (wpAny_pure ⟨_, rfl, hQ h₇ he₇ ?_ ?_ ?_ ?_⟩))
      · exact ((hit₄.extBut hs₅.extBut (Ne.symm hne)).extBut hs₆.extBut (Ne.symm hne)).extBut hs₇.extBut (Ne.symm hne)
      · exact hs₇.extBut _ _ (Nat.ne_of_gt hel) (hs₆.extBut _ _ (Nat.ne_of_gt hel) (hs₅.extBut _ _ (Nat.ne_of_gt hel) ht₄))
      · rw [hs₇.1, hs₆.1, hs₅.1, hz₄]
      · exact fun b o hbe hbi hb => hs₇.extBut b o hbe (hs₆.extBut b o hbe (hs₅.extBut b o hbe (hk₄ b o hbe hbi hb)))
theorem pyNext_enumT_item {e it l : Addr} {i : Nat} {items : Array Value} {x old : Value} {Q : Option Value → Shared → Prop}
    (he : IsEnum s.heap e it i old) (hit : s.heap.IsTupleIter it l i) (hl : s.heap.IsTuple l items) (hx : items[i]? = some x) (hne : e ≠ it)
    (hQ : ∀ h', IsEnumOut h' e it ((i : Int) + 1) x s.heap.objs.size → h'.IsTupleIter it l (i + 1) →
      h'.get? s.heap.objs.size = some { cls := .type "tuple", data := .seq #[.int i s.toks, x] } → h'.objs.size = s.heap.objs.size + 1 →
      (∀ b o, b ≠ e → b ≠ it → s.heap.get? b = some o → h'.get? b = some o) → Q (some (.ref s.heap.objs.size)) { s with heap := h', toks := s.toks + 1 }) :
    wpAny (model prog w) A (pyNext (.ref e)) Q E s := by
  have hT : s.TypeIs (.ref e) "enumerate" := ⟨_, he, rfl⟩
  unfold pyNext
  exact wpAny_bind (wpAny_attempt (wpAny_callSpecial?_slot (name := Str.ofString "__next__") hT F.slot_enumerate_next
    (wpAny_call_entry F.slot_enumerate_next hT F.entry_enumerate_next
      (enumT_next_item he hit hl hx hne fun h' a b c d k => wpAny_pure (hQ h' a b c d k)) (F.args_enumerate_next_1 _))))
theorem pyNext_enumT_end {e it l : Addr} {i : Nat} {items : Array Value} {old : Value} {Q : Option Value → Shared → Prop} (hh : A.handled = none)
    (he : IsEnum s.heap e it i old) (hit : s.heap.IsTupleIter it l i) (hl : s.heap.IsTuple l items) (hx : items[i]? = none)
    (hQ : ∀ h', Heap.ExtBut it s.heap h' → Q none { s with heap := h' }) : wpAny (model prog w) A (pyNext (.ref e)) Q E s := by
  have hT : s.TypeIs (.ref e) "enumerate" := ⟨_, he, rfl⟩
  unfold pyNext
  refine wpAny_bind (wpAny_attempt (wpAny_callSpecial?_slot (name := Str.ofString "__next__") hT F.slot_enumerate_next
    (wpAny_call_entry F.slot_enumerate_next hT F.entry_enumerate_next ?_ (F.args_enumerate_next_1 _))))
  show wpAny _ _ (field (.ref e) 2 >>= _) _ _ _
  refine wpAny_bind (wpAny_field he rfl (x := .ref it) rfl ?_)
  refine wpAny_bind (RZ.nextOf_tuple_end hh hit hl hx fun h' x he' hx' => ?_)
  obtain ⟨o, ho, hc⟩ := hx'
  refine wpAny_bind (wpAny_isInstance (T := "StopIteration") (b := true) ⟨o, ho, hc⟩ isSubtype_stop ?_)
  exact wpAny_pure (hQ _ he')
end
/-- the tuple at a, each item in a new pair with its place -/
def ItE (K : PySem.W.Frag) (a : Addr) : It :=
  ⟨fun i H => ∃ (xs : List V) (x : V), SqT K H a xs ∧ xs[i]? = some x, fun i H v H' => ∃ T x, v = .ref T ∧ H T = none ∧ H' = upd H T (.tup [.int (i : Nat), x]) ∧ ∀ xs, SqT K H a xs → xs[i]? = some x, fun i H => ∃ xs : List V, SqT K H a xs ∧ xs.length ≤ i⟩
theorem turn_enumT {P : Program} {w : World} {K : PySem.W.Frag} {elts : List Expr} {kk : Nat} {tpos : Pos} (a e it : Addr) :
    Turn P w K (.Tuple elts kk tpos) (ItE K a) [e, it] e (fun i h => (∃ old, IsEnum h e it ((i : Nat) : Int) old) ∧ h.IsTupleIter it a i ∧ e ≠ it) where
  mem := by simp
  obj := fun i h st b hb => by
    obtain ⟨⟨old, he⟩, ⟨o, ho, hc, hd⟩, _⟩ := st
    have e' : b = e ∨ b = it := by simpa using hb
    rcases e' with z | z
    · rw [z]; exact ⟨_, he, fun v q => nomatch q⟩
    · rw [z]; exact ⟨o, ho, fun v q => by rw [hd] at q; cases q⟩
  keep := fun i h h' st k => let ⟨⟨old, he⟩, hi, hne⟩ := st; ⟨⟨old, k e (by simp) _ he⟩, hi.at fun o q => k it (by simp) o q, hne⟩
  item := by
    intro X hP hw hK hc i pins s σ H E I hf st hg
    subst hP hw hK
    obtain ⟨⟨old, he⟩, hit, hne⟩ := st
    obtain ⟨xs, x, hq, hx⟩ := hg
    obtain ⟨its, rv, p, hz⟩ := I.tuple hq
    obtain ⟨u, hu, ru⟩ := rv.get hx
    have hel : e < s.heap.objs.size := Heap.lt_size he
    have hil : it < s.heap.objs.size := by obtain ⟨_, q, _⟩ := hit; exact Heap.lt_size q
    refine pyNext_enumT_item he hit (show s.heap.IsTuple a its.toArray from p) (x := u) (by simpa using hu) hne fun h' ho hit' hT hsz hk => ?_
    refine ⟨_, rfl, wpAny_letOwnedTupleGo_enum (s := { s with heap := h', toks := s.toks + 1 }) ho fun h'' he' sb => ?_⟩
    have hT2 : h''.get? s.heap.objs.size = some { cls := .type "tuple", data := .seq #[.int i s.toks, u] } := (sb.2 _ (Nat.ne_of_gt hel)).trans hT
    have new : ObjOk X.prog X.w (upd H s.heap.objs.size (.tup [.int (i : Nat), x])) h'' s.heap.objs.size (.tup [.int (i : Nat), x]) :=
      ⟨by show 2 ≤ sizeLine; decide, [.int i s.toks, u], .cons ⟨_, rfl⟩ (.cons ru .nil), ⟨_, hT2, rfl, _, rfl⟩⟩
    have I1 : Inv X pins σ (upd H s.heap.objs.size (.tup [.int (i : Nat), x])) { s with heap := h'', toks := s.toks + 1 } :=
      I.turnedNew (ch := [e, it]) (fun b ob hb q => (sb.2 b (fun z => hb (by simp [z]))).trans (hk b ob (fun z => hb (by simp [z])) (fun z => hb (by simp [z])) q)) hf (Nat.le_refl _) new
    refine ⟨.ref s.heap.objs.size, _, I1, rfl, ⟨_, x, rfl, I.hok.fresh (Nat.le_refl _), rfl, fun ys hy => by rw [I.tuple_inj hy hq]; exact hx⟩, ⟨⟨u, ?_⟩, hit'.at fun o q => (sb.2 it (Ne.symm hne)).trans q, hne⟩, fun b hb => ?_⟩
    · have e1 : ((i + 1 : Nat) : Int) = (i : Int) + 1 := by omega
      rw [e1]; exact he'
    · have hb' : b < s.heap.objs.size := by
        have e' : b = e ∨ b = it := by simpa using hb
        rcases e' with z | z
        · rw [z]; exact hel
        · rw [z]; exact hil
      rw [upd_ne (Nat.ne_of_lt hb')]
      exact (hf b hb).1
  done := by
    intro X hP hw hK hc i pins s σ H E I hf st hg
    subst hP hw hK
    obtain ⟨⟨old, he⟩, hit, hne⟩ := st
    obtain ⟨xs, hq, hx⟩ := hg
    obtain ⟨its, rv, p, hz⟩ := I.tuple hq
    obtain ⟨f0, f1, f2, f3, f4, f5⟩ := hf it (by simp)
    have hl := rv.length
    exact pyNext_enumT_end (I.ok.hd hc) he hit (show s.heap.IsTuple a its.toArray from p) (by simp; omega) fun h' eb => ⟨rfl, I.turned (t' := s.toks) (fun b o hb q => eb b o hb q) f0 f1 f3 f4 f5⟩
  self := fun A i s Q E st h => let ⟨⟨_, he⟩, _⟩ := st; wpAny_pyIter_enum he h
def iEnumT (K : PySem.W.Frag) (te : TE) : TI := fun σ H R => te σ H fun v H1 => ∃ (a : Addr) (xs : List V), v = .ref a ∧ SqT K H1 a xs ∧ R (ItE K a) H1
theorem pi_enumT {X : Cx} {e : Expr} {te : TE} {p pos tpos : Pos} {elts : List Expr} {kk : Nat} (hg : Gl X "enumerate") (hm : X.mg "enumerate" = none) (he : PE X e te) (hs : starEach [e] X.env = (false, eval e X.env) :: starEach [] X.env := by rfl) :
    PI X (.Tuple elts kk tpos) (.Call (.Name "enumerate" p) [e] [] pos) (iEnumT X.K te) := by
  refine ⟨fun pins s σ H R I h => ?_⟩
  refine Call_ (ld_blt I hg hm boot_enumerate (PyProof.Rows.callWith_type1 (args_cons (thn (he.run pins s σ H _ I h) fun u s1 ⟨v, H1, I1, r1, q1⟩ => args_nil ?_) hs) hs rfl))
  obtain ⟨a, xs, ex, hq, q⟩ := q1
  subst ex
  obtain rfl : u = Value.ref a := r1
  obtain ⟨its, rv, p', hz⟩ := I1.tuple hq
  refine call_enumerate_tuple (show s1.heap.IsTuple a its.toArray from p') fun h' he hit hsz hk => wpAny_pyIter_enum he ?_
  have I2 : Inv X pins σ H1 { s1 with heap := h' } := I1.kept (t' := s1.toks) hk
  refine ⟨s1.heap.objs.size + 1, [s1.heap.objs.size + 1, s1.heap.objs.size], _, _, H1, rfl, I2, turn_enumT a (s1.heap.objs.size + 1) s1.heap.objs.size, ⟨⟨.none, he⟩, hit, Nat.succ_ne_self _⟩, fun b hb => ?_, q⟩
  have e' : b = s1.heap.objs.size + 1 ∨ b = s1.heap.objs.size := by simpa using hb
  have hle : s1.heap.objs.size ≤ b := by
    rcases e' with z | z
    · rw [z]; exact Nat.le_add_right _ _
    · rw [z]; exact Nat.le_refl _
  exact I1.fpOk hle (I1.hok.fresh hle)
theorem walk_enumT {K : PySem.W.Frag} {a : Addr} {xs : List V} : Walk (ItE K a) xs.length (fun H => SqT K H a xs) (YPair (fun i => some (.int (i : Nat))) (fun i => xs[i]?)) := by
  refine ⟨fun i _ hi q => ⟨xs, xs[i], q, by simp [hi]⟩, fun _ q => ⟨xs, q, Nat.le_refl _⟩, fun i H v H' _ q y => ?_⟩
  obtain ⟨T, x, h1, h2, h3, h4⟩ := y
  exact ⟨T, .int (i : Nat), x, h1, h2, h3, rfl, h4 xs q⟩
theorem walk_revT {K : PySem.W.Frag} {a : Addr} {xs : List V} : Walk (RT.ItvT K a xs.length) xs.length (fun H => SqT K H a xs) (fun i H x H' => H' = H ∧ xs[xs.length - 1 - i]? = some x) :=
  ⟨fun i _ hi q => ⟨hi, xs, xs[xs.length - 1 - i]'(by omega), q, by simp [show xs.length - 1 - i < xs.length by omega]⟩, fun _ _ => Nat.le_refl _, fun _ _ _ _ _ q y => ⟨y.1, y.2 xs q⟩⟩
end En
namespace Dl
open PySem L2
open Evl (Ex)
section
variable {Γ : Ctx} {ρ : Env} {te : TE} {ts : TS} {tt : TT} {Δ : Fin} {Ψ : B → Env → Prop}
theorem rep_rev {K : PySem.W.Frag} {G : Hp} {xs : List V} {ds : List D} {i : Nat} {x : V} (hs : RepL K G xs ds) (hi : i < xs.length) (hx : xs[xs.length - 1 - i]? = some x) : ∃ y, ds.reverse[i]? = some y ∧ Rep K G x y := by
  obtain ⟨y, hy, ry⟩ := hs.get hx
  refine ⟨y, ?_, ry⟩
  rw [List.getElem?_reverse (by rw [← hs.length]; exact hi), ← hs.length]
  exact hy
/-- for x in reversed(a tuple) -/
theorem sw_forV {g : TG} {K : PySem.W.Frag} (hK : K = Γ.K) (h : EW Γ te ρ fun d ρ1 => ∃ ds, d = .tup ds ∧ Turns Γ g ts Δ ds.reverse ρ1) : SW Γ (tFor (RT.iRevA K te) g ts) ρ Δ := fun σ G H D k hn hr hb hc =>
  h σ G H _ k fun d ρ1 v G1 H1 e1 k1 r1 ⟨ds, e, J, i0, is, id⟩ => by
    subst e
    subst hK
    cases r1 with
    | @tup a xs _ hq hs =>
      refine ⟨a, xs, rfl, .inr ⟨sq_up k1.gh hq, RT.for_ItvT (xs := xs) (fun i σ H => ∃ G ρ2, Ex G1 G ∧ Ok Γ G H σ ρ2 ∧ J i ρ2) ⟨G1, ρ1, Ex.refl _, k1, i0⟩ (fun i σ H ⟨G2, ρ2, e2, k2, p2⟩ => sq_up (e2.trans k2.gh) hq) (fun i x σ H hi hx ⟨G2, ρ2, e2, k2, p2⟩ => ?_) (fun σ H ⟨G2, ρ2, e2, k2, p2⟩ => hn ρ2 σ G2 H (e1.trans e2) k2 (id ρ2 (by rw [List.length_reverse, ← hs.length]; exact p2)))⟩⟩
      obtain ⟨y, hy, ry⟩ := rep_rev hs hi hx
      exact (is i y ρ2 hy p2).run k2 e1 e2 (ry.mono e2) hn hr fun _ _ h => h
/-- [.. for x in reversed(a tuple)] -/
theorem eb_lcV {K : PySem.W.Frag} {g : TG} {vs : List Nat} {te0 te : TE} (hK : K = Γ.K) (h : EW Γ te0 ρ fun d ρ1 => ∃ ds, d = .tup ds ∧ Comp Γ g vs tt te ds.reverse ρ1 Ψ) : EB Γ (tLc (RT.iRevA K te0) g tt te vs) ρ Ψ := fun σ G H Q k q =>
  h σ G H _ k fun d ρ1 v G1 H1 e1 k1 r1 ⟨ds, e, gw, hv, hl, J, j0, js, jd⟩ => by
    subst e
    subst hK
    cases r1 with
    | @tup a xs _ hq hs =>
      have hle := hs.length
      rw [List.length_reverse] at hl jd
      exact ⟨a, xs, rfl, .inr ⟨sq_up k1.gh hq, fun p hp => lc_it En.walk_revT (fun i H => ∃ G acc ds, Acc Γ G1 G H σ ρ1 p acc ∧ RepL Γ.K G acc ds ∧ J i ds ∧ acc.length ≤ i) ⟨G1, [], [], Acc.new k1 hp, .nil, j0, Nat.le_refl _⟩ (fun i H _ ⟨G2, acc, es, A, _⟩ => sq_up (A.e.trans A.ok.gh) hq)
        (fun i x H H' hi ⟨G2, acc, es, A, ra, j, la⟩ hx => by
          obtain ⟨rfl, hx⟩ := hx
          obtain ⟨y, hy, ry⟩ := rep_rev hs hi hx
          exact Comp1.run (fun c => js i y es c hy j) gw hv A ra (ry.mono A.e) (by omega) fun H' ⟨G', acc', ds', A', r', j', l'⟩ => ⟨G', acc', ds', A', r', j', by omega⟩)
        (fun H ⟨G2, acc, es, A, ra, j, la⟩ => q _ ρ1 _ G2 H (e1.trans A.e) A.ok (acc_br A ra) (jd es (by rw [← hs.length]; exact j)))⟩⟩
theorem eb_mapV {K : PySem.W.Frag} {te0 te : TE} {j : Nat} {vs : List Nat} (hv : vs = [j]) (hK : K = Γ.K) (h : EW Γ te0 ρ fun d ρ1 => ∃ ds, d = .tup ds ∧ Maps Γ j te ds.reverse ρ1 Ψ) : EB Γ (tLc (RT.iRevA K te0) (gName j) tYes te vs) ρ Ψ := by
  subst hv
  exact eb_lcV hK fun σ G H Q k q => h σ G H Q k fun d ρ1 v G1 H1 e1 k1 r1 ⟨ds, hd, m⟩ => q d ρ1 v G1 H1 e1 k1 r1 ⟨ds, hd, m.comp⟩
/-- for i, x in enumerate(a tuple) -/
theorem sw_forE {g : TG} {K : PySem.W.Frag} (hK : K = Γ.K) (h : EW Γ te ρ fun d ρ1 => ∃ ds, d = .tup ds ∧ ∃ J : Nat → Env → Prop, J 0 ρ1 ∧ (∀ (i : Nat) x ρ2, ds[i]? = some x → J i ρ2 → Turn1 Γ g ts Δ (.tup [.int (i : Int), x]) ρ2 (J (i + 1))) ∧ (∀ ρ2, J ds.length ρ2 → Δ.nx ρ2)) :
    SW Γ (tFor (En.iEnumT K te) g ts) ρ Δ := fun σ G H D k hn hr hb hc =>
  h σ G H _ k fun d ρ1 v G1 H1 e1 k1 r1 ⟨ds, e, J, i0, is, id⟩ => by
    subst e
    subst hK
    cases r1 with
    | @tup a xs _ hq hs =>
      refine ⟨a, xs, rfl, sq_up k1.gh hq, for_it En.walk_enumT (fun i σ H => ∃ G ρ2, Ex G1 G ∧ Ok Γ G H σ ρ2 ∧ J i ρ2) ⟨G1, ρ1, Ex.refl _, k1, i0⟩ (fun i σ H _ ⟨G2, ρ2, e2, k2, p2⟩ => sq_up (e2.trans k2.gh) hq) (fun i v σ H H' hi ⟨G2, ρ2, e2, k2, p2⟩ hy => ?_) (fun σ H ⟨G2, ρ2, e2, k2, p2⟩ => hn ρ2 σ G2 H (e1.trans e2) k2 (id ρ2 (by rw [← hs.length]; exact p2)))⟩
      obtain ⟨T, z, x, rfl, hT, rfl, hz, hx⟩ := hy
      cases hz
      obtain ⟨y, hy, ry⟩ := hs.get hx
      obtain ⟨k3, e3⟩ := k2.new (o := .tup [.int (i : Nat), x]) hT
      have e23 := e2.trans e3
      exact (is i y ρ2 hy p2).run k3 e1 e23 (.tup (SqT.of upd_same) (.cons (.int _) (.cons (ry.mono e23) .nil))) hn hr fun _ _ h => h
end
end Dl

/-! Mk: methods; objects made, methods called within a try; keywords of methods and classes; isinstance of own classes. -/
namespace L2
open PySem PySem.Spec PyProof.Rows
/-- C(..), what is wanted of an exception told by the slots -/
def tMakeS (C : Addr) (sp : Sp) (E : St → XK) (t : TA) : TE := fun σ H Q => t σ H fun vs H1 => ∀ x dx, H1 x = none → H1 dx = none → dx ≠ x →
  sp (.ref x :: vs) (upd (upd H1 dx (.own x)) x (.ins C dx [])) (fun v H2 => v = .non ∧ Q (.ref x) H2) (E σ)
def tMethT (C : Addr) (m : Str) (sp : Sp) (E : St → XK) (ta : TE) (t : TA) : TE := fun σ H Q => ta σ H fun x H1 => ∃ a dx fs, x = .ref a ∧ H1 a = some (.ins C dx fs) ∧ fs.lookup m = none ∧ t σ H1 fun vs H2 => sp (x :: vs) H2 Q (E σ)
/-- o.m(k = v, ..) -/
def tMethK (C : Addr) (m : Str) (sp : Sp) (gV : List V → List V → List V) (E : St → XK) (ta : TE) (tk : TA) : TE := fun σ H Q => ta σ H fun x H1 => ∃ a dx fs, x = .ref a ∧ H1 a = some (.ins C dx fs) ∧ fs.lookup m = none ∧ tk σ H1 fun zs H2 => sp (gV [x] zs) H2 Q (E σ)
section
variable {X : Cx} {CX : CXT} {k : Nat} {f C : Addr} {fd : FuncData} {ps ks : List Str} {sp : Sp} {E : St → XK} {x m : Str} {p pos apos : Pos} {e o : Expr} {es : List Expr} {kws : List Keyword} {ta : TE} {t tk : TA} {g : List Value → List Value → List Value} {gV : List V → List V → List V}
theorem run_makeS {pins : List (Addr × Obj)} {σ : St} {H : Hp} {s : Shared} {Q : VK} {us : List Value} {vs : List V} (M : Mk X.K C f) (F : FnOk X.prog X.w X.K X.mg X.base CX k f fd ps sp) (hr : Room (k + 1) X.A) (hb : Binds X.K fd ps [])
    (hx : PassesAt CX X σ (E σ)) (I : Inv X pins σ H s) (r : Vals vs us)
    (h : ∀ x dx, H x = none → H dx = none → dx ≠ x → sp (.ref x :: vs) (upd (upd H dx (.own x)) x (.ins C dx [])) (fun v H2 => v = .non ∧ Q (.ref x) H2) (E σ)) :
    wpAny (model X.prog X.w) X.A (call (.ref C) us) (EP X pins σ Q) X.xe s := by
  have hq := h (s.heap.objs.size + 1) s.heap.objs.size (I.hok.fresh (Nat.le_succ _)) (I.hok.fresh (Nat.le_refl _)) (Nat.ne_of_lt (Nat.lt_succ_self _))
  have I2 := Inv.made (C := C) I
  have r2 : Vals (V.ref (s.heap.objs.size + 1) :: vs) (Value.ref (s.heap.objs.size + 1) :: us) := .cons rfl r
  have hl : (Value.ref (s.heap.objs.size + 1) :: us).length = ps.length := by
    have e := r2.length
    rw [F.len _ _ _ _ hq] at e
    exact e.symm
  have b := hb _ (Value.ref (s.heap.objs.size + 1) :: us) I2.kIn (by rw [List.append_nil]; exact hl)
  rw [List.append_nil] at b
  refine wpAny_call (make_map (f := f) I.kIn M.makes M.init (beq_iff_eq.mp M.fn) (codeAny_mono (F.run _ X.stack _ _ ⟨Value.ref (s.heap.objs.size + 1) :: us, []⟩ (Value.ref (s.heap.objs.size + 1) :: us) _ _ (E σ) (hr.make C us [])
    (I2.env0.make C us []) b r2 hq) fun r s' hq' => ?_))
  cases r with
  | error e => exact hx pins _ _ e s' I2 hq'
  | ok fl =>
    cases fl with
    | ret u =>
      obtain ⟨v, H', I3, rv, ev, q3⟩ := I2.after hq'
      subst ev
      exact ⟨rv, ⟨V.ref (s.heap.objs.size + 1), H', I3, rfl, q3⟩⟩
    | next => exact False.elim hq'
    | brk => exact False.elim hq'
    | cont => exact False.elim hq'
theorem pe_makeS (M : Mk X.K C f) (F : FnOk X.prog X.w X.K X.mg X.base CX k f fd ps sp) (hr : Room (k + 1) X.A) (hg : Gl X x) (hm : X.mg x = some (.ref C)) (hb : Binds X.K fd ps []) (hx : ∀ σ, PassesAt CX X σ (E σ))
    (ha : PA X (e :: es) t) (hdb : (x == ("__debug__" : Str)) = false := by decide) (he : starEach (e :: es) X.env = (false, eval e X.env) :: starEach es X.env := by rfl) (hpl : (backTo pos (starEach es X.env)).any (·.1) = false := by rfl) :
    PE X (.Call (.Name x p) (e :: es) [] pos) (tMakeS C sp E t) := by
  refine ⟨fun pins s σ H Q I h => ?_⟩
  refine wpAny_Call_Name_kw (ld_glob I hg hm ?_ hdb)
  refine PySem.W.callWith_K (h₀ := X.base) I.ok.mod.kin M.kp (thn (ha.run pos pins s σ H _ I h) fun us s1 ⟨vs, H1, I1, r, q⟩ => ⟨I1.kIn, ?_⟩) he hpl
  exact run_makeS M F hr hb (hx σ) I1 r q
theorem pe_methT {pl : Sem Bool} (he : PE X o ta) (c : Cls X.K C) (hm : Meth X.K C m f) (F : FnOk X.prog X.w X.K X.mg X.base CX k f fd ps sp) (hr : Room k X.A) (hb : Binds X.K fd ps []) (hx : ∀ σ, PassesAt CX X σ (E σ)) (ha : PA X (e :: es) t)
    (hst : starEach (e :: es) X.env = (false, eval e X.env) :: starEach es X.env := by rfl) (hpl : (backTo pos (starEach es X.env)).any (·.1) = false := by rfl)
    (ht : eval (.Call (.Attribute o m apos) (e :: es) [] pos) X.env = (do
      let ov ← eval o X.env
      standAt apos.atName
      let (f, first) ← holding [ov] (getMethod ov m pl)
      callWith pos f first (backTo pos (starEach (e :: es) X.env)) (backToKw pos (keywordEach [] X.env))) := by rfl) :
    PE X (.Call (.Attribute o m apos) (e :: es) [] pos) (tMethT C m sp E ta t) := by
  refine ⟨fun pins s σ H Q I h => ?_⟩
  refine PySem.W.methodCall_KW (pl := pl) (thn (he.run pins s σ H _ I h) fun u s1 ⟨x, H1, I1, rx, a, dx, fs, ex, ea, l, q⟩ => ?_) ht
  subst ex
  obtain rfl : u = Value.ref a := rx
  refine getmeth_ok I1 ea c hm l ?_
  refine PySem.W.callWith_K (first := [.ref a]) (h₀ := X.base) I.ok.mod.kin hm.kp (thn (ha.run pos pins s1 σ H1 _ I1 q) fun us s2 ⟨vs, H2, I2, r, q2⟩ => ⟨I2.kIn, ?_⟩) hst hpl
  exact run_fnS (us := .ref a :: us) (vs := .ref a :: vs) F hr hb (hx σ) I2 (.cons rfl r) q2
theorem run_fnKS {pins : List (Addr × Obj)} {σ : St} {H : Hp} {s : Shared} {Q : VK} {us ws : List Value} {vs zs : List V} (F : FnOk X.prog X.w X.K X.mg X.base CX k f fd ps sp) (hr : Room k X.A) (hb : KBinds X.K fd ps ks g gV) (hx : PassesAt CX X σ (E σ))
    (I : Inv X pins σ H s) (r : Vals vs us) (rz : Vals zs ws) (h : sp (gV vs zs) H Q (E σ)) : wpAny (model X.prog X.w) X.A (call (.ref f) us (ks.zip ws)) (EP X pins σ Q) X.xe s := by
  have r2 := hb.rel r rz
  have hl : (g us ws).length = ps.length := by rw [← r2.length]; exact F.len _ _ _ _ h
  refine wpAny_call (codeAny_mono (F.run X.A X.stack s H ⟨us, ks.zip ws⟩ (g us ws) (gV vs zs) Q (E σ) hr I.env0 (hb.to s us ws I.kIn hl) r2 h) fun r s' hq => ?_)
  cases r with
  | error e => exact hx pins H s e s' I hq
  | ok fl =>
    cases fl with
    | ret u => exact I.after hq
    | next => exact False.elim hq
    | brk => exact False.elim hq
    | cont => exact False.elim hq
/-- o.m(k = v, ..) -/
theorem pe_methKS {pl : Sem Bool} (he : PE X o ta) (c : Cls X.K C) (hm : Meth X.K C m f) (F : FnOk X.prog X.w X.K X.mg X.base CX k f fd ps sp) (hr : Room k X.A) (hb : KBinds X.K fd ps ks g gV) (hx : ∀ σ, PassesAt CX X σ (E σ)) (hkw : PK X kws tk)
    (hall : (backToKw pos (keywordEach kws X.env)).all (·.1.isSome) = true := by rfl) (hks : (backToKw pos (keywordEach kws X.env)).filterMap (·.1) = ks := by rfl)
    (hpl : ((backTo pos (starEach [] X.env)).any (·.1) || (backToKw pos (keywordEach kws X.env)).any (·.1.isNone)) = false := by rfl)
    (ht : eval (.Call (.Attribute o m apos) [] kws pos) X.env = (do
      let ov ← eval o X.env
      standAt apos.atName
      let (f, first) ← holding [ov] (getMethod ov m pl)
      callWith pos f first (backTo pos (starEach [] X.env)) (backToKw pos (keywordEach kws X.env))) := by rfl) :
    PE X (.Call (.Attribute o m apos) [] kws pos) (tMethK C m sp gV E ta tk) := by
  refine ⟨fun pins s σ H Q I h => ?_⟩
  refine PySem.W.methodCall_KW (pl := pl) (thn (he.run pins s σ H _ I h) fun u s1 ⟨x, H1, I1, rx, a, dx, fs, ex, ea, l, q⟩ => ?_) ht
  subst ex
  obtain rfl : u = Value.ref a := rx
  refine getmeth_ok I1 ea c hm l ?_
  refine PySem.W.callWith_KW0 (first := [.ref a]) (h₀ := X.base) I.ok.mod.kin hm.kp hall (thn (hkw.run pos pins s1 σ H1 _ I1 q) fun ws s2 ⟨zs, H2, I2, rz, q2⟩ => ⟨I2.kIn, ?_⟩) hpl
  rw [hks]
  exact run_fnKS (us := [.ref a]) (vs := [.ref a]) F hr hb (hx σ) I2 (.cons rfl .nil) rz q2
theorem passesAt {X : Cx} {E : XK} (h : Passes CX X E) : ∀ σ, PassesAt CX X σ E := fun σ pins H s e s' I c => h pins σ H s e s' I c
/-- keywords of a class -/
theorem kbnP {K : PySem.W.Frag} {x qual : Str} {st : Stmt} {f : Addr} {fd : FuncData} {ps ks : List Str} {n m : Nat} {perm : List Nat} (F : Fun K x qual st f fd) (hk : ks.length = m)
    (h : ∀ (kV doc pm : Value) (an : Option Addr) (cdv ct : Value) (us ws : List Value), us.length = n → ws.length = m → bindArgs (PySem.W.fnOf x qual (defArgs st) (defBody st) (defScope st) .none kV doc pm an cdv ct) ⟨us, ks.zip ws⟩ = pure (ps.zip (kwP n m perm us ws))) : KBn K fd ps n ks (kwP n m perm) (kwP n m perm) := by
  obtain ⟨oc, od, kV, doc, pm, an, cdv, ct, osl, rfl, lk, hcd⟩ := F.ex
  exact ⟨fun s us ws _ h1 h2 => BindsTo.of_eq (h kV doc pm an cdv ct us ws h1 (h2.trans hk)), fun r1 r2 => kwP_val r1 r2⟩
/-- isinstance(e, c), e the exception that the suite holds, with its own dict -/
def rIsD (K : PySem.W.Frag) (D a : Addr) (cls : Value) (d : Option Addr) : List V → Hp → VK → Prop := fun xs H Q => ∃ (c : V) (cv : Value) (b : Bool) (dd : Addr) (fs : List (Str × V)), xs = [.ref a, c] ∧ cls = .ref D ∧ d = some dd ∧ H dd = some (.xd fs) ∧ (∀ u, RelV c u → u = cv) ∧ PySem.W.kitOne K (.ref D) cv = some b ∧ Q (.bl b) H
theorem call_isD {X : Cx} {a D : Addr} {oe : Obj} {cls : Value} {d : Option Addr} {pn : List (Addr × Obj)} (C : ExcC X.K D) (hz : Zc cls d oe) (hf : ∃ vs, oe.data = .fields vs) : CallR (X.suite a ((a, oe) :: pn)) (.builtin "isinstance") (rIsD X.K D a cls d) := by
  intro pins s σ H xs us Q I r h
  obtain ⟨c, cv, b, dd, fs, rfl, rfl, rfl, ea, hcv, e, q⟩ := h
  cases r with
  | cons rx rr =>
    cases rr with
    | cons rt rr =>
      cases rr
      cases rx
      have ec := hcv _ rt
      subst ec
      obtain ⟨hget, _⟩ := I.pin (a, oe) (List.mem_append.mpr (.inl List.mem_cons_self))
      obtain ⟨vs, hv⟩ := hf
      have hx : ObjOk X.prog X.w H s.heap dd (.xd fs) := I.hok dd _ ea
      obtain ⟨mA, hns, hr⟩ := hx
      obtain ⟨od, ho, hl⟩ := lookIn_ns hns
      have J : PySem.W.InstAt s.heap a oe D (some od) := ⟨hget, hz.1, by unfold PySem.W.notCls; rw [hv] <;> rfl, by rw [hz.2]; exact ho⟩
      obtain ⟨cdD, hcD, _⟩ := PySem.W.any_some C.hd
      exact PySem.W.kia_one (PySem.W.kitx_exc (by rw [hcD]; rfl) C.hg C.hk C.hs C.ha C.hn C.ht C.hm) I.kIn J e (fun z => nomatch z) fun tk => ⟨.bl b, H, I.kept (t' := tk) fun _ _ z => z, rfl, q⟩
end
end L2
namespace Dl
open PySem L2
open Evl (Ex)
section
variable {Γ : Ctx} {ρ : Env} {te ta : TE} {ts tk : TA} {tt : TT} {Δ : Fin} {Ψ : B → Env → Prop} {Φ : D → Env → Prop}
theorem RepF.lookN {K : PySem.W.Frag} {G : Hp} {f : Str} : ∀ {vs : List (Str × V)} {ds : List (Str × D)}, RepF K G vs ds → ds.lookup f = none → vs.lookup f = none
  | _, _, .nil, _ => rfl
  | _, _, .cons (f := g) (v := v) (vs := vs) h hs, e => by
    rw [look_put] at e
    rw [look_put]
    by_cases hf : f = g
    · rw [if_pos hf] at e
      cases e
    · rw [if_neg hf] at e ⊢
      exact RepF.lookN hs e
/-- what the receiver of a method is: the object's data, frozen -/
theorem eb_meth {K : PySem.W.Frag} {C : Addr} {m : Str} {Cn' : Cn} {Fam : Rsc → Prop} {E : XK} (hK : K = Γ.K) (hF : Fam Rsc.no) (h : EW Γ ta ρ fun d ρ1 => ∃ fs, d = .obj C fs ∧ fs.lookup m = none ∧ AW Γ ts ρ1 fun ds ρ2 => Cn' Γ.K 0 (d :: ds) (fun b => Ψ b ρ2) NoX) :
    EB Γ (tMeth C m (SpD K Fam Cn') [] E ta ts) ρ Ψ := fun σ G H Q k q =>
  h σ G H _ k fun d ρ1 v G1 H1 e1 k1 r1 ⟨fs, hd, hl, ha⟩ => by
    subst hd
    subst hK
    cases r1 with
    | @obj a _ dx gs _ hq hs =>
      refine ⟨a, dx, gs, rfl, k1.gh _ _ hq, hs.lookN hl, ?_⟩
      refine ha σ G1 H1 _ k1 fun ds ρ2 vs G2 H2 e2 k2 r2 hc => ?_
      rw [List.append_nil]
      refine ⟨Rsc.no, G2, .obj C fs :: ds, _, NoX, hF, trivial, fun _ z => z.elim, k2.gh, .cons (.obj (e2 _ _ hq) (hs.mono e2)) r2, hc, fun b v G' H' a hb p => ?_, fun _ _ _ _ _ _ _ _ _ _ _ z => z.elim⟩
      have a' := Aft.no k2.res k2.rg k2.gh a
      refine q b ρ2 v G' H' ((e1.trans e2).trans a.gg) (k2.aft a') (br_of k2 ?_) p
      cases b with
      | fz d => exact hb
      | ow ds =>
        obtain ⟨c, xs, e, h1, h2, h3, h4, h5⟩ := hb
        exact ⟨c, xs, e, h1, h2, h3, fun z => Γ.R.dom H2 c k2.res z h5, h5⟩
theorem ew_meth {K : PySem.W.Frag} {C : Addr} {m : Str} {Cn' : Cn} {Fam : Rsc → Prop} {E : XK} (hK : K = Γ.K) (hF : Fam Rsc.no) (h : EW Γ ta ρ fun d ρ1 => ∃ fs, d = .obj C fs ∧ fs.lookup m = none ∧ AW Γ ts ρ1 fun ds ρ2 => Cn' Γ.K 0 (d :: ds) (fun b => Φ (asD b) ρ2) NoX) :
    EW Γ (tMeth C m (SpD K Fam Cn') [] E ta ts) ρ Φ := ew_of_eb (eb_meth hK hF h)
/-- o.m(k = v), cold -/
theorem eb_methW {K : PySem.W.Frag} {C : Addr} {m : Str} {Cn' : Cn} {Fam : Rsc → Prop} {E : XK} {n1 n2 : Nat} {perm : List Nat} (hK : K = Γ.K) (hF : Fam Rsc.no) (h : EW Γ ta ρ fun d ρ1 => ∃ fs, d = .obj C fs ∧ fs.lookup m = none ∧ AW Γ tk ρ1 fun ds ρ2 => Cn' Γ.K 0 (kwP n1 n2 perm [d] ds) (fun b => Ψ b ρ2) NoX) :
    EB Γ (tMethK C m (SpD K Fam Cn') (kwP n1 n2 perm) (fun _ => E) ta tk) ρ Ψ := fun σ G H Q k q =>
  h σ G H _ k fun d ρ1 v G1 H1 e1 k1 r1 ⟨fs, hd, hl, ha⟩ => by
    subst hd
    subst hK
    cases r1 with
    | @obj a _ dx gs _ hq hs =>
      refine ⟨a, dx, gs, rfl, k1.gh _ _ hq, hs.lookN hl, ?_⟩
      refine ha σ G1 H1 _ k1 fun ds ρ2 vs G2 H2 e2 k2 r2 hc => ?_
      refine ⟨Rsc.no, G2, _, _, NoX, hF, trivial, fun _ z => z.elim, k2.gh, rep_kwP (.cons (.obj (e2 _ _ hq) (hs.mono e2)) .nil) r2, hc, fun b v G' H' a hb p => ?_, fun _ _ _ _ _ _ _ _ _ _ _ z => z.elim⟩
      have a' := Aft.no k2.res k2.rg k2.gh a
      refine q b ρ2 v G' H' ((e1.trans e2).trans a.gg) (k2.aft a') (br_of k2 ?_) p
      cases b with
      | fz d => exact hb
      | ow ds =>
        obtain ⟨c, xs, e, h1, h2, h3, h4, h5⟩ := hb
        exact ⟨c, xs, e, h1, h2, h3, fun z => Γ.R.dom H2 c k2.res z h5, h5⟩
theorem ew_methW {K : PySem.W.Frag} {C : Addr} {m : Str} {Cn' : Cn} {Fam : Rsc → Prop} {E : XK} {n1 n2 : Nat} {perm : List Nat} (hK : K = Γ.K) (hF : Fam Rsc.no) (h : EW Γ ta ρ fun d ρ1 => ∃ fs, d = .obj C fs ∧ fs.lookup m = none ∧ AW Γ tk ρ1 fun ds ρ2 => Cn' Γ.K 0 (kwP n1 n2 perm [d] ds) (fun b => Φ (asD b) ρ2) NoX) :
    EW Γ (tMethK C m (SpD K Fam Cn') (kwP n1 n2 perm) (fun _ => E) ta tk) ρ Φ := ew_of_eb (eb_methW hK hF h)
/-- o.m(..) in a try -/
theorem tryB_meth {K : PySem.W.Frag} {C : Addr} {m : Str} {Cn' : Cn} {Fam : Rsc → Prop} (hK : K = Γ.K) (hF : Fam Rsc.no) (h : EW Γ ta ρ fun d ρ1 => ∃ fs, d = .obj C fs ∧ fs.lookup m = none ∧ AW Γ ts ρ1 fun ds ρ2 => Cn' Γ.K 0 (d :: ds) (fun _ => Δ.nx ρ2) (Δ.xr ρ2)) :
    TryB Γ (fun W => tDrop (tMethT C m (SpD K Fam Cn') (WE W) ta ts)) ρ Δ := by
  subst hK
  exact fun W σ G H D k w hn hr hb hc =>
    h σ G H _ k fun d ρ1 v G1 H1 e1 k1 r1 ⟨fs, hd, hl, ha⟩ => by
    subst hd
    cases r1 with
    | @obj a _ dx gs _ hq hs =>
      refine ⟨a, dx, gs, rfl, k1.gh _ _ hq, hs.lookN hl, ?_⟩
      refine ha σ G1 H1 _ k1 fun ds ρ2 vs G2 H2 e2 k2 r2 hc => ?_
      refine ⟨Rsc.no, G2, .obj C fs :: ds, _, _, hF, trivial, fun _ z => z.elim, k2.gh, .cons (.obj (e2 _ _ hq) (hs.mono e2)) r2, hc, fun b v G' H' a hb p => ?_, fun C f v d dd G' H' a hd h0 rv x => ?_⟩
      · exact hn _ _ G' H' ((e1.trans e2).trans a.gg) (k2.aft (Aft.no k2.res k2.rg k2.gh a)) p
      · exact w ρ2 C f d v dd σ G' H' ((e1.trans e2).trans a.gg) (k2.aft (Aft.no k2.res k2.rg k2.gh a)) (xc_of k2 h0 hd) rv x
theorem tryB_methW {K : PySem.W.Frag} {C : Addr} {m : Str} {Cn' : Cn} {Fam : Rsc → Prop} {n1 n2 : Nat} {perm : List Nat} (hK : K = Γ.K) (hF : Fam Rsc.no) (h : EW Γ ta ρ fun d ρ1 => ∃ fs, d = .obj C fs ∧ fs.lookup m = none ∧ AW Γ tk ρ1 fun ds ρ2 => Cn' Γ.K 0 (kwP n1 n2 perm [d] ds) (fun _ => Δ.nx ρ2) (Δ.xr ρ2)) :
    TryB Γ (fun W => tDrop (tMethK C m (SpD K Fam Cn') (kwP n1 n2 perm) (WE W) ta tk)) ρ Δ := by
  subst hK
  exact fun W σ G H D k w hn hr hb hc =>
    h σ G H _ k fun d ρ1 v G1 H1 e1 k1 r1 ⟨fs, hd, hl, ha⟩ => by
    subst hd
    cases r1 with
    | @obj a _ dx gs _ hq hs =>
      refine ⟨a, dx, gs, rfl, k1.gh _ _ hq, hs.lookN hl, ?_⟩
      refine ha σ G1 H1 _ k1 fun ds ρ2 vs G2 H2 e2 k2 r2 hc => ?_
      refine ⟨Rsc.no, G2, _, _, _, hF, trivial, fun _ z => z.elim, k2.gh, rep_kwP (.cons (.obj (e2 _ _ hq) (hs.mono e2)) .nil) r2, hc, fun b v G' H' a hb p => ?_, fun C f v d dd G' H' a hd h0 rv x => ?_⟩
      · exact hn _ _ G' H' ((e1.trans e2).trans a.gg) (k2.aft (Aft.no k2.res k2.rg k2.gh a)) p
      · exact w ρ2 C f d v dd σ G' H' ((e1.trans e2).trans a.gg) (k2.aft (Aft.no k2.res k2.rg k2.gh a)) (xc_of k2 h0 hd) rv x
/-- C(..) in a try -/
theorem tryB_make {K : PySem.W.Frag} {Cl : Addr} {C : Cn} (hK : K = Γ.K) (h : AW Γ ts ρ fun ds ρ1 => C Γ.K 0 ds (fun _ => Δ.nx ρ1) (Δ.xr ρ1)) : TryB Γ (fun W => tDrop (tMakeS Cl (SpI K Cl C) (WE W) ts)) ρ Δ := by
  subst hK
  exact fun W σ G H D k w hn hr hb hc =>
    h σ G H _ k fun ds ρ1 vs G1 H1 e1 k1 r1 hc x dx hx hdx hne => by
    have old : ∀ b o, H1 b = some o → L2.del (upd (upd H1 dx (.own x)) x (.ins Cl dx [])) x b = some o := fun b o hb => by
      rw [del_ne (ne_of_none hb hx), upd_ne (ne_of_none hb hx), upd_ne (ne_of_none hb hdx)]
      exact hb
    refine ⟨x, dx, vs, G1, ds, _, _, rfl, upd_same, Evl.fresh_back k1.gh hx, fun b o hb => old b o (k1.gh b o hb), r1, hc, fun b G' H' a hb p => ⟨rfl, ?_⟩, fun C f v d dd G' H' a hd h0 rv xi => ?_⟩
    · exact hn _ _ G' H' (e1.trans a.gg) (k1.aft (Aft.no k1.res k1.rg k1.gh (a.sub old))) p
    · have h0' : H1 dd = none := by
        cases e : H1 dd with
        | none => rfl
        | some o =>
          rw [old dd o e] at h0
          cases h0
      exact w ρ1 C f d v dd σ G' H' (e1.trans a.gg) (k1.aft (Aft.no k1.res k1.rg k1.gh (a.sub old))) (xc_of k1 h0' hd) rv xi
theorem tryB_if {ts tu : WX → TS} (h : TW Γ tt ρ fun b ρ1 => (b = true → TryB Γ ts ρ1 Δ) ∧ (b = false → TryB Γ tu ρ1 Δ)) : TryB Γ (fun W => tIfS tt (ts W) (tu W)) ρ Δ := fun W σ G H D k w hn hr hb hc =>
  h σ G H _ k fun b ρ1 G1 H1 e1 k1 p => by
    have w' : WOk Γ W Δ.xr G1 := fun ρ1 C f d v dd σ' G' H' e => w ρ1 C f d v dd σ' G' H' (e1.trans e)
    cases b with
    | true => exact iteT (p.1 rfl W σ G1 H1 D k1 w' (fun ρ' σ' G' H' e' => hn ρ' σ' G' H' (e1.trans e')) hr (fun ρ' σ' G' H' e' => hb ρ' σ' G' H' (e1.trans e')) (fun ρ' σ' G' H' e' => hc ρ' σ' G' H' (e1.trans e')))
    | false => exact iteF (p.2 rfl W σ G1 H1 D k1 w' (fun ρ' σ' G' H' e' => hn ρ' σ' G' H' (e1.trans e')) hr (fun ρ' σ' G' H' e' => hb ρ' σ' G' H' (e1.trans e')) (fun ρ' σ' G' H' e' => hc ρ' σ' G' H' (e1.trans e')))
/-- C(k = v, ..), cold -/
theorem eb_makeW {K : PySem.W.Frag} {Cl : Addr} {C : Cn} {E : XK} {n m n1 n2 : Nat} {perm : List Nat} (hp : ∀ (x : V) (vs zs : List V), vs.length = n → zs.length = m → kwP n1 n2 perm (x :: vs) zs = x :: (kwP n1 n2 perm (x :: vs) zs).tail)
    (hd : ∀ (x : D) (vs zs : List D), vs.length = n → zs.length = m → kwP n1 n2 perm (x :: vs) zs = x :: (kwP n1 n2 perm (x :: vs) zs).tail) (hK : K = Γ.K)
    (h : AW Γ ts ρ fun ds ρ1 => AW Γ tk ρ1 fun es ρ2 => ds.length = n ∧ es.length = m ∧ ∀ x, C Γ.K 0 (kwP n1 n2 perm (x :: ds) es).tail (fun b => Ψ b ρ2) NoX) : EB Γ (tMakeK Cl n m (SpI K Cl C) (kwP n1 n2 perm) E ts tk) ρ Ψ := fun σ G H Q k q =>
  h σ G H _ k fun ds ρ1 vs G1 H1 e1 k1 r1 h1 => h1 σ G1 H1 _ k1 fun es ρ2 zs G2 H2 e2 k2 r2 ⟨l1, l2, hc⟩ => by
    refine ⟨r1.length.trans l1, r2.length.trans l2, fun x dx hx hdx hne => ?_⟩
    subst hK
    have old : ∀ b o, H2 b = some o → L2.del (upd (upd H2 dx (.own x)) x (.ins Cl dx [])) x b = some o := fun b o hb => by
      rw [del_ne (ne_of_none hb hx), upd_ne (ne_of_none hb hx), upd_ne (ne_of_none hb hdx)]
      exact hb
    rw [hp (.ref x) vs zs (r1.length.trans l1) (r2.length.trans l2)]
    have rt : RepL Γ.K G2 (kwP n1 n2 perm (V.ref x :: vs) zs).tail (kwP n1 n2 perm (D.ptr x :: ds) es).tail := by
      have r := rep_kwP (n := n1) (m := n2) (perm := perm) (.cons (Rep.ptr x) (r1.mono e2) : RepL Γ.K G2 (V.ref x :: vs) (D.ptr x :: ds)) r2
      rw [hp (.ref x) vs zs (r1.length.trans l1) (r2.length.trans l2), hd (.ptr x) ds es l1 l2] at r
      cases r with
      | cons _ r => exact r
    refine ⟨x, dx, _, G2, _, _, NoX, rfl, upd_same, Evl.fresh_back k2.gh hx, fun b o hb => old b o (k2.gh b o hb), rt, hc _, fun b G' H' a hb p => ⟨rfl, ?_⟩, fun _ _ _ _ _ _ _ _ _ _ _ z => z.elim⟩
    have a' := Aft.no k2.res k2.rg k2.gh (a.sub old)
    refine q b ρ2 _ G' H' ((e1.trans e2).trans a.gg) (k2.aft a') (br_of k2 ?_) p
    cases b with
    | fz d => exact hb
    | ow c =>
      obtain ⟨y, o, e, h1, h2, h3, h4, h5⟩ := hb
      cases e
      exact ⟨x, o, rfl, h1, h2, h3, fun z => Γ.R.dom H2 x k2.res z hx, hx⟩
/-- isinstance(x, C), x an object of an own class, C an own class -/
theorem ew_isiR {K : PySem.W.Frag} {c : Addr} {b : Bool} (hK : K = Γ.K) (h : EW Γ te ρ fun d ρ1 => ∃ C fs, d = .obj C fs ∧ ObjTy K C ∧ PySem.W.kitOne K (.ref C) (.ref c) = some b ∧ Φ (.bl b) ρ1) : EW Γ (tCB (rIsi K) (tCons te (tCons (tC (.ref c)) tNil))) ρ Φ := fun σ G H Q k q =>
  h σ G H _ k fun d ρ1 v G1 H1 e1 k1 r1 ⟨C, fs, hd, T, hb, p⟩ => by
    subst hK
    subst hd
    cases r1 with
    | obj hq hs => exact ⟨_, .ref c, .ref C, .ref c, b, rfl, .own c, .base (.ins (k1.gh _ _ hq) T.cl T.ha T.hn T.htk T.hm), hb, q _ ρ1 _ G1 H1 e1 k1 (.bl _) p⟩
/-- isinstance(e, C), e the caught exception -/
theorem ew_isE {K : PySem.W.Frag} {D' a c dd : Addr} {b : Bool} (h : EW Γ te ρ fun x ρ1 => ∃ f d, x = .err a dd f d ∧ PySem.W.kitOne K (.ref D') (.ref c) = some b ∧ Φ (.bl b) ρ1) : EW Γ (tCB (rIsD K D' a (.ref D') (some dd)) (tCons te (tCons (tC (.ref c)) tNil))) ρ Φ := fun σ G H Q k q =>
  h σ G H _ k fun x ρ1 v G1 H1 e1 k1 r1 ⟨f, d, hd, hb, p⟩ => by
    subst hd
    cases r1 with
    | err hg hs => exact ⟨.ref c, .ref c, b, dd, _, rfl, rfl, rfl, k1.gh _ _ hg, fun u hu => hu, hb, q _ ρ1 _ G1 H1 e1 k1 (.bl _) p⟩
end
end Dl

/-! Sr: the source that some laws draw from: [small, great, left, at], two lists of its own and two numbers -/
namespace Dl
open PySem L2
open Evl (Ex)
def srcR (b g s : Addr) : Rsc := ⟨b, fun a => a = b ∨ a = g ∨ a = s, fun H => ∃ (gs small : List Int) (left at_ : Int), H b = some (.lst [.ref s, .ref g, .int left, .int at_]) ∧ H g = some (.lst (gs.map V.int)) ∧ H s = some (.lst (small.map V.int)) ∧ (∀ x ∈ gs, 0 ≤ x) ∧ (∀ x ∈ small, 0 ≤ x ∧ x < 998244353) ∧ gs.length ≤ 64 ∧ small.length ≤ 64 ∧ 0 ≤ left ∧ 0 ≤ at_,
  fun H H' ⟨gs, small, left, at_, h1, h2, h3, h4⟩ k => ⟨gs, small, left, at_, (k b (.inl rfl)).trans h1, (k g (.inr (.inl rfl))).trans h2, (k s (.inr (.inr rfl))).trans h3, h4⟩,
  fun H a ⟨gs, small, left, at_, h1, h2, h3, h4⟩ e => by
    rcases e with rfl | rfl | rfl
    · rw [h1]; simp
    · rw [h2]; simp
    · rw [h3]; simp⟩
def IsSrc (R : Rsc) : Prop := ∃ b g s, b ≠ g ∧ b ≠ s ∧ g ≠ s ∧ R = srcR b g s
/-- what _law_open promises -/
def spSrc (K : PySem.W.Frag) : Sp := fun vs H Q _ => ∃ (a : Addr) (ns : List Int), vs = [.ref a] ∧ SqL K H a (ns.map V.int) ∧ ns.length ≤ 63 ∧ ∀ b g s H', b ≠ g → b ≠ s → g ≠ s → H b = none → H g = none → H s = none → (∀ x o, H x = some o → H' x = some o) → (srcR b g s).I H' → Q (.ref b) H'
theorem sw_src {Γ : Ctx} {K : PySem.W.Frag} {te : TE} {tu : TS} {E : XK} {ρ : Env} {Δ : Fin} {i : Nat} (hK : K = Γ.K) (hR : Γ.R = Rsc.no) (hX : Γ.X = []) (h : EW Γ te ρ fun d ρ1 => ∃ ns : List Int, d = .lst (ns.map D.int) ∧ ns.length ≤ 63 ∧ ∀ R, IsSrc R → SW { Γ with R := R } tu (ρ1.set i (some (.fz (.ptr R.w)))) Δ) :
    SW Γ (tSeq (tAsg (tCall (spSrc K) [] E (tCons te tNil)) (gName i)) tu) ρ Δ := fun σ G0 H0 D k0 hn hr hb hc => h σ G0 H0 _ k0 fun d ρ1 v G1 H1 e1 k1 r1 ⟨ns, hd, hl, hs⟩ => by
  subst hd hK
  obtain ⟨K, G, H, R, X⟩ := Γ
  cases hR
  cases hX
  cases r1 with
  | @lst a xs _ hq hss =>
    have := hss.ints
    subst this
    refine ⟨a, ns, rfl, seq_of k1.gh hq, hl, fun b g s H' d1 d2 d3 hb0 hg0 hs0 ext hI => ?_⟩
    have fF : ∀ x, (srcR b g s).F x → H1 x = none := fun x e => by
      rcases e with rfl | rfl | rfl
      · exact hb0
      · exact hg0
      · exact hs0
    have g1 : ∀ x, H1 x = none → G1 x = none := fun x e => by
      cases z : G1 x with
      | none => rfl
      | some o => rw [k1.gh x o z] at e; cases e
    have h0 : ∀ x, H1 x = none → H x = none := fun x e => by
      cases z : H x with
      | none => rfl
      | some o => exact absurd e (k1.dm x (by show H x ≠ none; rw [z]; simp))
    have bv : ∀ {v : V} {c : B}, BV (⟨K, G, H, Rsc.no, []⟩ : Ctx) G1 H1 v c → BV (⟨K, G, H, srcR b g s, []⟩ : Ctx) G1 H' v c := fun {v c} q => by
      cases c with
      | fz d => exact q
      | ow es =>
        obtain ⟨y, o, rfl, q1, q2, q3, q4, q5⟩ := q
        exact ⟨y, o, rfl, ext y o q1, q2, q3, (fun e => by rw [fF y e] at q1; cases q1), q5⟩
    have k' : Ok (⟨K, G, H, srcR b g s, []⟩ : Ctx) G1 H' (σ.set i (some (.ref b))) (ρ1.set i (some (.fz (.ptr b)))) := by
      have ow : ∀ j y, own (σ.set i (some (.ref b))) (ρ1.set i (some (.fz (.ptr b)))) j y → own σ ρ1 j y := fun j y ⟨p, es, q⟩ => by
        by_cases hj : j = i
        · subst hj
          rw [List.getElem?_set] at q
          simp only [if_true] at q
          split at q <;> cases q
        · rw [List.getElem?_set_ne (Ne.symm hj)] at p q
          exact ⟨p, es, q⟩
      refine ⟨fun x o z => ext x o (k1.gh x o z), k1.g0, k1.nw, fun x o _ z => ext x o (k1.fr x o (fun z => z) z), fun x z => ?_, hI, fun x e => g1 x (fF x e), by rw [List.length_set, List.length_set]; exact k1.len, fun j c z => ?_, fun j l y o1 o2 => k1.dj j l y (ow j y o1) (ow l y o2), fun p hp => absurd hp (by simp), fun j y _ p hp => absurd hp (by simp)⟩
      · cases w : H1 x with
        | none => exact absurd w (k1.dm x z)
        | some o => rw [ext x o w]; simp
      · by_cases hj : j = i
        · subst hj
          have hlt : j < ρ1.length := by
            have := (List.getElem?_eq_some_iff.mp z).1
            rw [List.length_set] at this
            exact this
          rw [List.getElem?_set_self hlt] at z
          cases z
          exact ⟨_, List.getElem?_set_self (by rw [k1.len]; exact hlt), Rep.ptr b⟩
        · rw [List.getElem?_set_ne (Ne.symm hj)] at z
          obtain ⟨v, e1, e2⟩ := k1.var j c z
          exact ⟨v, by rw [List.getElem?_set_ne (Ne.symm hj)]; exact e1, bv e2⟩
    have un : ∀ {G' H' : Hp} {σ' : St} {ρ' : Env}, Ok (⟨K, G, H, srcR b g s, []⟩ : Ctx) G' H' σ' ρ' → Ok (⟨K, G, H, Rsc.no, []⟩ : Ctx) G' H' σ' ρ' := fun k => by
      refine ⟨k.gh, k.g0, k.nw, fun x o _ z => ?_, k.dm, trivial, fun x e => e.elim, k.len, fun j c z => ?_, k.dj, fun p hp => absurd hp (by simp), fun j y _ p hp => absurd hp (by simp)⟩
      · exact k.fr x o (fun e => by
          have := h0 x (fF x e)
          have z' : H x = some o := z
          rw [this] at z'
          cases z') z
      · obtain ⟨v, e1, e2⟩ := k.var j c z
        refine ⟨v, e1, ?_⟩
        cases c with
        | fz d => exact e2
        | ow es =>
          obtain ⟨y, o, rfl, q1, q2, q3, q4, q5⟩ := e2
          exact ⟨y, o, rfl, q1, q2, q3, fun e => e, q5⟩
    refine hs (srcR b g s) ⟨b, g, s, d1, d2, d3, rfl⟩ (σ.set i (some (.ref b))) G1 H' D k' (fun ρ' σ' G' H' e k' p => hn ρ' σ' G' H' (e1.trans e) (un k') p) (fun c v σ' ρ' G' H' k' r p => hr c v σ' ρ' G' H' (un k') ?_ p) (fun ρ' σ' G' H' e k' p => hb ρ' σ' G' H' (e1.trans e) (un k') p) (fun ρ' σ' G' H' e k' p => hc ρ' σ' G' H' (e1.trans e) (un k') p)
    obtain ⟨r1, r2⟩ := r
    refine ⟨?_, r2⟩
    cases c with
    | fz d => exact r1
    | ow es =>
      obtain ⟨y, o, e, q1, q2, q3, q4, q5⟩ := r1
      exact ⟨y, o, e, q1, q2, q3, fun e => e, q5⟩
end Dl

/-! Bo: own lists lent to an __init__ that keeps nothing of them. -/
namespace Dl
open PySem L2
open Evl (Ex)
section
variable {Γ : Ctx} {ρ : Env} {Ψ : B → Env → Prop}
theorem rep_ints_in {K : PySem.W.Frag} {G G2 : Hp} {v : V} {u : List Int} (h : ∀ a xs, Rd G a (.tup xs) → Rd G2 a (.tup xs)) (r : Rep K G v (.tup (u.map D.int))) : Rep K G2 v (.tup (u.map D.int)) := by
  cases r with
  | @tup a xs _ hq hs =>
    have e := hs.ints
    subst e
    refine .tup ?_ (RepL.ofInts u)
    rcases hq with hq | hq
    · exact .inl (h a (u.map V.int) hq)
    · exact .inr hq
theorem repF_ints {K : PySem.W.Frag} {G G2 : Hp} (h : ∀ a xs, Rd G a (.tup xs) → Rd G2 a (.tup xs)) : ∀ {gs : List (Str × V)} {fs : List (Str × D)}, RepF K G gs fs → (∀ p ∈ fs, ∃ u : List Int, p.2 = .tup (u.map D.int)) → RepF K G2 gs fs
  | _, _, .nil, _ => .nil
  | _, _, .cons (f := f) (d := d) r rs, hf => by
    obtain ⟨u, hu⟩ := hf (f, d) List.mem_cons_self
    have hu : d = .tup (u.map D.int) := hu
    subst hu
    exact .cons (rep_ints_in h r) (repF_ints h rs (fun p hp => hf p (List.mem_cons_of_mem _ hp)))
/-- C(k = l, m = n), l and n lists that their slots alone hold, which the object keeps nothing of -/
theorem eb_makeB {K : PySem.W.Frag} {Cl : Addr} {C : Cn} {E : XK} {i j n1 n2 : Nat} {perm : List Nat} {ds1 ds2 : List D} (hij : i ≠ j) (h1 : ρ[i]? = some (some (.ow (.lst ds1)))) (h2 : ρ[j]? = some (some (.ow (.lst ds2))))
    (hp : ∀ (x : V) (zs : List V), zs.length = 2 → kwP n1 n2 perm [x] zs = x :: (kwP n1 n2 perm [x] zs).tail)
    (hd : ∀ (x : D) (zs : List D), zs.length = 2 → kwP n1 n2 perm [x] zs = x :: (kwP n1 n2 perm [x] zs).tail) (hK : K = Γ.K)
    (hc : ∀ x, C Γ.K 0 (kwP n1 n2 perm [x] [.lst ds1, .lst ds2]).tail (fun b => ∃ fs, b = .ow (.obj Cl fs) ∧ (∀ p ∈ fs, ∃ u : List Int, p.2 = .tup (u.map D.int)) ∧ Ψ b ρ) NoX) : EB Γ (tMakeK Cl 0 2 (SpI K Cl C) (kwP n1 n2 perm) E tNil (tCons (tVar i) (tCons (tVar j) tNil))) ρ Ψ := fun σ G H Q k q => by
  subst hK
  obtain ⟨a1, xs1, p1, g1, r1⟩ := k.lst h1
  obtain ⟨a2, xs2, p2, g2, r2⟩ := k.lst h2
  have o1 : own σ ρ i a1 := ⟨p1, _, h1⟩
  have o2 : own σ ρ j a2 := ⟨p2, _, h2⟩
  obtain ⟨_, _, n1', f1, z1⟩ := own_in k o1
  obtain ⟨_, _, n2', f2, z2⟩ := own_in k o2
  have ne : a1 ≠ a2 := fun e => hij (k.dj i j a1 o1 (e ▸ o2))
  refine ⟨_, p1, _, p2, rfl, rfl, fun x dx hx hdx hne => ?_⟩
  have old : ∀ b o, H b = some o → L2.del (upd (upd H dx (.own x)) x (.ins Cl dx [])) x b = some o := fun b o hb => by
    rw [del_ne (ne_of_none hb hx), upd_ne (ne_of_none hb hx), upd_ne (ne_of_none hb hdx)]
    exact hb
  obtain ⟨Gx, hGx⟩ : ∃ Gx, Gx = upd (upd G a1 (.lst xs1)) a2 (.lst xs2) := ⟨_, rfl⟩
  have x1 : Gx a1 = some (.lst xs1) := by rw [hGx, upd_ne ne, upd_same]
  have x2 : Gx a2 = some (.lst xs2) := by rw [hGx, upd_same]
  have xo : ∀ y, y ≠ a1 → y ≠ a2 → Gx y = G y := fun y m1 m2 => by rw [hGx, upd_ne m2, upd_ne m1]
  have gx : Ex G Gx := fun y o h => by
    have m1 : y ≠ a1 := fun e => by rw [e, n1'] at h; cases h
    have m2 : y ≠ a2 := fun e => by rw [e, n2'] at h; cases h
    rw [xo y m1 m2]
    exact h
  have xH : Ex Gx H := fun y o h => by
    by_cases m1 : y = a1
    · subst m1
      rw [x1] at h
      cases h
      exact g1
    · by_cases m2 : y = a2
      · subst m2
        rw [x2] at h
        cases h
        exact g2
      · rw [xo y m1 m2] at h
        exact k.gh y o h
  rw [hp (.ref x) _ rfl]
  have rt : RepL Γ.K Gx (kwP n1 n2 perm [V.ref x] [.ref a1, .ref a2]).tail (kwP n1 n2 perm [D.ptr x] [.lst ds1, .lst ds2]).tail := by
    have r := rep_kwP (n := n1) (m := n2) (perm := perm) (.cons (Rep.ptr x) .nil : RepL Γ.K Gx [V.ref x] [D.ptr x]) (.cons (Rep.lst (SqL.of x1) (r1.mono gx)) (.cons (Rep.lst (SqL.of x2) (r2.mono gx)) .nil) : RepL Γ.K Gx [V.ref a1, V.ref a2] [D.lst ds1, D.lst ds2])
    rw [hp (.ref x) _ rfl, hd (.ptr x) _ rfl] at r
    cases r with
    | cons _ r => exact r
  refine ⟨x, dx, _, Gx, _, _, NoX, rfl, upd_same, Evl.fresh_back xH hx, fun b o hb => old b o (xH b o hb), rt, hc _, fun b G' H' a hb p => ⟨rfl, ?_⟩, fun _ _ _ _ _ _ _ _ _ _ _ z => z.elim⟩
  obtain ⟨fs, rfl, hf, pΨ⟩ := p
  have rgx : ∀ y, Γ.R.F y → Gx y = none := fun y hy => by
    rw [xo y (fun e => f1 (e ▸ hy)) (fun e => f2 (e ▸ hy))]
    exact k.rg y hy
  have a' := Aft.no k.res rgx xH (a.sub old)
  obtain ⟨G2, hG2⟩ : ∃ G2 : Hp, G2 = fun y => if y = a1 ∨ y = a2 then none else G' y := ⟨_, rfl⟩
  have s1 : G2 a1 = none := by rw [hG2]; exact if_pos (.inl rfl)
  have s2 : G2 a2 = none := by rw [hG2]; exact if_pos (.inr rfl)
  have so : ∀ y, y ≠ a1 → y ≠ a2 → G2 y = G' y := fun y m1 m2 => by
    rw [hG2]
    exact if_neg (fun e => e.elim m1 m2)
  have sn : ∀ y, G' y = none → G2 y = none := fun y e => by
    rw [hG2]
    show (if _ then _ else _) = _
    split
    · rfl
    · exact e
  have gg : Ex G G2 := fun y o h => by
    have m1 : y ≠ a1 := fun e => by rw [e, n1'] at h; cases h
    have m2 : y ≠ a2 := fun e => by rw [e, n2'] at h; cases h
    rw [so y m1 m2]
    exact a'.gg y o (gx y o h)
  have back : ∀ y o, G2 y = some o → G' y = some o := fun y o h => by
    by_cases m1 : y = a1
    · rw [m1, s1] at h; cases h
    · by_cases m2 : y = a2
      · rw [m2, s2] at h; cases h
      · rw [so y m1 m2] at h
        exact h
  have k' : Ok Γ G2 H' σ ρ := k.grow gg (fun y o h => a'.gh y o (back y o h)) (fun y e1 e2 => by
    by_cases m1 : y = a1
    · rw [m1]; exact s1
    · by_cases m2 : y = a2
      · rw [m2]; exact s2
      · exact sn y (a'.nw y (by rw [xo y m1 m2]; exact e1) e2)) a'.fr a'.dm a'.res (fun y hy => sn y (a'.rg y hy))
  obtain ⟨c, o, e, b1, b2, b3, b4, b5⟩ := hb
  cases e
  have tp : ∀ a xs, Rd G' a (.tup xs) → Rd G2 a (.tup xs) := fun y xs h => by
    have m1 : y ≠ a1 := fun e => by
      rw [e] at h
      rcases h with h | ⟨o, h⟩
      · rw [a'.gg a1 _ x1] at h
        cases h
      · rw [a'.gg a1 _ x1] at h
        cases h
    have m2 : y ≠ a2 := fun e => by
      rw [e] at h
      rcases h with h | ⟨o, h⟩
      · rw [a'.gg a2 _ x2] at h
        cases h
      · rw [a'.gg a2 _ x2] at h
        cases h
    unfold Rd
    rw [so y m1 m2]
    exact h
  have rc : RepC Γ.K G2 o (.obj Cl fs) := by
    cases b2 with
    | obj r => exact .obj (repF_ints tp r hf)
  exact q (.ow (.obj Cl fs)) ρ _ G2 H' gg k' (br_of (G := G) (H := H) (b := .ow (.obj Cl fs)) k ⟨x, o, rfl, b1, rc, sn x b3, (fun z => Γ.R.dom H x k.res z hx), hx⟩) pΨ
end
end Dl

namespace Pf
open PySem L2 Dl
def top (i : Nat) : Stmt := PySem.Challenge.pw_mirrorcounts_k80_whole_rows_back_and_for.main.body.getD i (.Pass ⟨0, 0, 0, 0⟩)
abbrev s_is_integer : Stmt := top 1
abbrev s_is_sequence : Stmt := top 2
abbrev s_is_pair : Stmt := top 3
abbrev s_are_integers : Stmt := top 4
abbrev s_frozen : Stmt := top 5
abbrev s_InvalidNumber__init : Stmt := inClass (top 8) 0
abbrev s_InvalidShare__init : Stmt := inClass (top 9) 0
abbrev s_InvalidValues__init : Stmt := inClass (top 10) 0
abbrev s_InvalidRow__init : Stmt := inClass (top 11) 0
abbrev s_Undefined__init : Stmt := inClass (top 12) 0
abbrev s_common_divisor : Stmt := top 15
abbrev s_common_multiple : Stmt := top 16
abbrev s_is_share : Stmt := top 17
abbrev s_is_amount : Stmt := top 18
abbrev s_as_share : Stmt := top 19
abbrev s_reduced_pair : Stmt := top 20
abbrev s_less : Stmt := top 21
abbrev s_over : Stmt := top 22
abbrev s_common_bottom : Stmt := top 23
abbrev s_scaled_to : Stmt := top 24
abbrev s_whole_parts : Stmt := top 26
abbrev s_poly_from : Stmt := top 27
abbrev s_combined_polys : Stmt := top 28
abbrev s_multiplied_rows : Stmt := top 29
abbrev s_multiplied_polys : Stmt := top 30
abbrev s_value_of_rows : Stmt := top 31
abbrev s_value_at : Stmt := top 33
abbrev s_poly_less : Stmt := top 34
abbrev s_poly_times : Stmt := top 35
abbrev s_poly_of : Stmt := top 36
abbrev s_sum_of_products : Stmt := top 38
abbrev s_window_back : Stmt := top 39
abbrev s_terms_back : Stmt := top 40
abbrev s_no_shift : Stmt := top 41
abbrev s_shift_forward : Stmt := top 42
abbrev s_shift_back : Stmt := top 43
abbrev s_shift_behind : Stmt := top 44
abbrev s_shift_by : Stmt := top 45
abbrev s_turned_factors : Stmt := top 46
abbrev s_bottom_row : Stmt := top 47
abbrev s_product_below : Stmt := top 48
abbrev s_Row__init : Stmt := inClass (top 50) 0
abbrev s_Row__term : Stmt := inClass (top 50) 1
abbrev s_Row__moved : Stmt := inClass (top 50) 2
abbrev s_Row__turned : Stmt := inClass (top 50) 3
abbrev s_need_integer : Stmt := top 51
abbrev s_fraction : Stmt := top 52
abbrev s_back_fraction : Stmt := top 53
abbrev s__law_open : Stmt := top 55
abbrev s__law_draw : Stmt := top 56
abbrev s__law_pick : Stmt := top 57
abbrev s__law_same : Stmt := top 58
abbrev s__law_share : Stmt := top 59
abbrev s__law_worth : Stmt := top 60
abbrev s__law_row : Stmt := top 61
abbrev s__law_window : Stmt := top 62
abbrev s__law_turned : Stmt := top 63
abbrev s__law_bottom : Stmt := top 64
abbrev s__law_top : Stmt := top 65
abbrev s__law_poly : Stmt := top 66
abbrev s__law_at : Stmt := top 67
abbrev s__law_made : Stmt := top 68
abbrev s__law_is : Stmt := top 69
abbrev s__law_wrong_row : Stmt := top 70
abbrev s__law_row_refused : Stmt := top 71
abbrev s__law_number_refused : Stmt := top 72
abbrev s__law_terms_right : Stmt := top 73
abbrev s__law_dues : Stmt := top 74
abbrev s__law_fractions_right : Stmt := top 75
abbrev s__law_all : Stmt := top 76
abbrev s_law : Stmt := top 77
theorem sc_is_integer : FnScope ["value"] ["value"] (defScope s_is_integer) := ⟨rfl, rfl, rfl, by decide +kernel, rfl, by decide +kernel, by decide +kernel⟩
theorem sc_is_sequence : FnScope ["value"] ["value"] (defScope s_is_sequence) := ⟨rfl, rfl, rfl, by decide +kernel, rfl, by decide +kernel, by decide +kernel⟩
theorem sc_is_pair : FnScope ["value"] ["value"] (defScope s_is_pair) := ⟨rfl, rfl, rfl, by decide +kernel, rfl, by decide +kernel, by decide +kernel⟩
theorem sc_are_integers : FnScope ["value", "one"] ["value"] (defScope s_are_integers) := ⟨rfl, rfl, rfl, by decide +kernel, rfl, by decide +kernel, by decide +kernel⟩
theorem sc_frozen : FnScope ["value", "one"] ["value"] (defScope s_frozen) := ⟨rfl, rfl, rfl, by decide +kernel, rfl, by decide +kernel, by decide +kernel⟩
theorem sc_InvalidNumber__init : FnScope ["self", "value"] ["self", "value"] (defScope s_InvalidNumber__init) := ⟨rfl, rfl, rfl, by decide +kernel, rfl, by decide +kernel, by decide +kernel⟩
theorem sc_InvalidShare__init : FnScope ["self", "value"] ["self", "value"] (defScope s_InvalidShare__init) := ⟨rfl, rfl, rfl, by decide +kernel, rfl, by decide +kernel, by decide +kernel⟩
theorem sc_InvalidValues__init : FnScope ["self", "value"] ["self", "value"] (defScope s_InvalidValues__init) := ⟨rfl, rfl, rfl, by decide +kernel, rfl, by decide +kernel, by decide +kernel⟩
theorem sc_InvalidRow__init : FnScope ["self", "value"] ["self", "value"] (defScope s_InvalidRow__init) := ⟨rfl, rfl, rfl, by decide +kernel, rfl, by decide +kernel, by decide +kernel⟩
theorem sc_Undefined__init : FnScope ["self", "what"] ["self", "what"] (defScope s_Undefined__init) := ⟨rfl, rfl, rfl, by decide +kernel, rfl, by decide +kernel, by decide +kernel⟩
theorem sc_common_divisor : FnScope ["a", "b"] ["a", "b"] (defScope s_common_divisor) := ⟨rfl, rfl, rfl, by decide +kernel, rfl, by decide +kernel, by decide +kernel⟩
theorem sc_common_multiple : FnScope ["a", "b"] ["a", "b"] (defScope s_common_multiple) := ⟨rfl, rfl, rfl, by decide +kernel, rfl, by decide +kernel, by decide +kernel⟩
theorem sc_is_share : FnScope ["value", "a", "b"] ["value"] (defScope s_is_share) := ⟨rfl, rfl, rfl, by decide +kernel, rfl, by decide +kernel, by decide +kernel⟩
theorem sc_is_amount : FnScope ["value"] ["value"] (defScope s_is_amount) := ⟨rfl, rfl, rfl, by decide +kernel, rfl, by decide +kernel, by decide +kernel⟩
theorem sc_as_share : FnScope ["value"] ["value"] (defScope s_as_share) := ⟨rfl, rfl, rfl, by decide +kernel, rfl, by decide +kernel, by decide +kernel⟩
theorem sc_reduced_pair : FnScope ["a", "b", "divisor"] ["a", "b"] (defScope s_reduced_pair) := ⟨rfl, rfl, rfl, by decide +kernel, rfl, by decide +kernel, by decide +kernel⟩
theorem sc_less : FnScope ["one", "other", "a", "b", "c", "d"] ["one", "other"] (defScope s_less) := ⟨rfl, rfl, rfl, by decide +kernel, rfl, by decide +kernel, by decide +kernel⟩
theorem sc_over : FnScope ["one", "other", "a", "b", "c", "d"] ["one", "other"] (defScope s_over) := ⟨rfl, rfl, rfl, by decide +kernel, rfl, by decide +kernel, by decide +kernel⟩
theorem sc_common_bottom : FnScope ["shares", "bottom", "share"] ["shares"] (defScope s_common_bottom) := ⟨rfl, rfl, rfl, by decide +kernel, rfl, by decide +kernel, by decide +kernel⟩
theorem sc_scaled_to : FnScope ["share", "factor", "a", "b"] ["share", "factor"] (defScope s_scaled_to) := ⟨rfl, rfl, rfl, by decide +kernel, rfl, by decide +kernel, by decide +kernel⟩
theorem sc_whole_parts : FnScope ["poly", "bottom", "share"] ["poly"] (defScope s_whole_parts) := ⟨rfl, rfl, rfl, by decide +kernel, rfl, by decide +kernel, by decide +kernel⟩
theorem sc_poly_from : FnScope ["numbers", "bottom", "many", "k"] ["numbers", "bottom"] (defScope s_poly_from) := ⟨rfl, rfl, rfl, by decide +kernel, rfl, by decide +kernel, by decide +kernel⟩
theorem sc_combined_polys : FnScope ["one", "factor", "other", "by", "first", "low", "second", "high", "bottom", "row", "k"] ["one", "factor", "other", "by"] (defScope s_combined_polys) := ⟨rfl, rfl, rfl, by decide +kernel, rfl, by decide +kernel, by decide +kernel⟩
theorem sc_multiplied_rows : FnScope ["one", "other", "row", "i", "j"] ["one", "other"] (defScope s_multiplied_rows) := ⟨rfl, rfl, rfl, by decide +kernel, rfl, by decide +kernel, by decide +kernel⟩
theorem sc_multiplied_polys : FnScope ["one", "other", "first", "low", "second", "high"] ["one", "other"] (defScope s_multiplied_polys) := ⟨rfl, rfl, rfl, by decide +kernel, rfl, by decide +kernel, by decide +kernel⟩
theorem sc_value_of_rows : FnScope ["numbers", "bottom", "x", "a", "b", "top", "scale", "k"] ["numbers", "bottom", "x"] (defScope s_value_of_rows) := ⟨rfl, rfl, rfl, by decide +kernel, rfl, by decide +kernel, by decide +kernel⟩
theorem sc_value_at : FnScope ["poly", "x", "numbers", "bottom"] ["poly", "x"] (defScope s_value_at) := ⟨rfl, rfl, rfl, by decide +kernel, rfl, by decide +kernel, by decide +kernel⟩
theorem sc_poly_less : FnScope ["one", "other"] ["one", "other"] (defScope s_poly_less) := ⟨rfl, rfl, rfl, by decide +kernel, rfl, by decide +kernel, by decide +kernel⟩
theorem sc_poly_times : FnScope ["one", "other"] ["one", "other"] (defScope s_poly_times) := ⟨rfl, rfl, rfl, by decide +kernel, rfl, by decide +kernel, by decide +kernel⟩
theorem sc_poly_of : FnScope ["values", "row", "value"] ["values"] (defScope s_poly_of) := ⟨rfl, rfl, rfl, by decide +kernel, rfl, by decide +kernel, by decide +kernel⟩
theorem sc_sum_of_products : FnScope ["one", "other", "a", "b"] ["one", "other"] (defScope s_sum_of_products) := ⟨rfl, rfl, rfl, by decide +kernel, rfl, by decide +kernel, by decide +kernel⟩
theorem sc_window_back : FnScope ["factors", "window", "known"] ["factors", "window"] (defScope s_window_back) := ⟨rfl, rfl, rfl, by decide +kernel, rfl, by decide +kernel, by decide +kernel⟩
theorem sc_terms_back : FnScope ["factors", "window", "many", "terms", "_"] ["factors", "window", "many"] (defScope s_terms_back) := ⟨rfl, rfl, rfl, by decide +kernel, rfl, by decide +kernel, by decide +kernel⟩
theorem sc_no_shift : FnScope ["many"] ["many"] (defScope s_no_shift) := ⟨rfl, rfl, rfl, by decide +kernel, rfl, by decide +kernel, by decide +kernel⟩
theorem sc_shift_forward : FnScope ["factors", "shift", "last", "moved", "i"] ["factors", "shift"] (defScope s_shift_forward) := ⟨rfl, rfl, rfl, by decide +kernel, rfl, by decide +kernel, by decide +kernel⟩
theorem sc_shift_back : FnScope ["factors", "shift", "head", "moved", "undone", "factor", "i"] ["factors", "shift"] (defScope s_shift_back) := ⟨rfl, rfl, rfl, by decide +kernel, rfl, by decide +kernel, by decide +kernel⟩
theorem sc_shift_behind : FnScope ["factors", "one", "other", "total", "coefficient", "i"] ["factors", "one", "other"] (defScope s_shift_behind) := ⟨rfl, rfl, rfl, by decide +kernel, rfl, by decide +kernel, by decide +kernel⟩
theorem sc_shift_by : FnScope ["factors", "k", "stay", "square", "total", "left"] ["factors", "k"] (defScope s_shift_by) := ⟨rfl, rfl, rfl, by decide +kernel, rfl, by decide +kernel, by decide +kernel⟩
theorem sc_turned_factors : FnScope ["factors", "head", "factor"] ["factors"] (defScope s_turned_factors) := ⟨rfl, rfl, rfl, by decide +kernel, rfl, by decide +kernel, by decide +kernel⟩
theorem sc_bottom_row : FnScope ["factors", "factor"] ["factors"] (defScope s_bottom_row) := ⟨rfl, rfl, rfl, by decide +kernel, rfl, by decide +kernel, by decide +kernel⟩
theorem sc_product_below : FnScope ["one", "other", "many", "row", "i", "a", "j", "b"] ["one", "other", "many"] (defScope s_product_below) := ⟨rfl, rfl, rfl, by decide +kernel, rfl, by decide +kernel, by decide +kernel⟩
theorem sc_Row__init : FnScope ["self", "factors", "first", "kept", "start"] ["self", "factors", "first"] (defScope s_Row__init) := ⟨rfl, rfl, rfl, by decide +kernel, rfl, by decide +kernel, by decide +kernel⟩
theorem sc_Row__term : FnScope ["self", "k"] ["self", "k"] (defScope s_Row__term) := ⟨rfl, rfl, rfl, by decide +kernel, rfl, by decide +kernel, by decide +kernel⟩
theorem sc_Row__moved : FnScope ["self", "k", "shift", "terms", "_"] ["self", "k"] (defScope s_Row__moved) := ⟨rfl, rfl, rfl, by decide +kernel, rfl, by decide +kernel, by decide +kernel⟩
theorem sc_Row__turned : FnScope ["self", "terms"] ["self"] (defScope s_Row__turned) := ⟨rfl, rfl, rfl, by decide +kernel, rfl, by decide +kernel, by decide +kernel⟩
theorem sc_need_integer : FnScope ["k"] ["k"] (defScope s_need_integer) := ⟨rfl, rfl, rfl, by decide +kernel, rfl, by decide +kernel, by decide +kernel⟩
theorem sc_fraction : FnScope ["row", "bottom", "top"] ["row"] (defScope s_fraction) := ⟨rfl, rfl, rfl, by decide +kernel, rfl, by decide +kernel, by decide +kernel⟩
theorem sc_back_fraction : FnScope ["row", "top", "bottom"] ["row"] (defScope s_back_fraction) := ⟨rfl, rfl, rfl, by decide +kernel, rfl, by decide +kernel, by decide +kernel⟩
theorem sc__law_open : FnScope ["script", "small", "cell", "great"] ["script"] (defScope s__law_open) := ⟨rfl, rfl, rfl, by decide +kernel, rfl, by decide +kernel, by decide +kernel⟩
theorem sc__law_draw : FnScope ["source", "many", "great", "digit", "small", "at", "cell", "mixed"] ["source", "many"] (defScope s__law_draw) := ⟨rfl, rfl, rfl, by decide +kernel, rfl, by decide +kernel, by decide +kernel⟩
theorem sc__law_pick : FnScope ["source", "row"] ["source", "row"] (defScope s__law_pick) := ⟨rfl, rfl, rfl, by decide +kernel, rfl, by decide +kernel, by decide +kernel⟩
theorem sc__law_same : FnScope ["told", "due", "k"] ["told", "due"] (defScope s__law_same) := ⟨rfl, rfl, rfl, by decide +kernel, rfl, by decide +kernel, by decide +kernel⟩
theorem sc__law_share : FnScope ["a", "b", "one", "two", "k", "rest"] ["a", "b"] (defScope s__law_share) := ⟨rfl, rfl, rfl, by decide +kernel, rfl, by decide +kernel, by decide +kernel⟩
theorem sc__law_worth : FnScope ["source", "shape"] ["source"] (defScope s__law_worth) := ⟨rfl, rfl, rfl, by decide +kernel, rfl, by decide +kernel, by decide +kernel⟩
theorem sc__law_row : FnScope ["source", "many", "factors", "k", "first"] ["source"] (defScope s__law_row) := ⟨rfl, rfl, rfl, by decide +kernel, rfl, by decide +kernel, by decide +kernel⟩
theorem sc__law_window : FnScope ["row", "far", "factors", "d", "ahead", "k", "i", "back", "rest"] ["row", "far"] (defScope s__law_window) := ⟨rfl, rfl, rfl, by decide +kernel, rfl, by decide +kernel, by decide +kernel⟩
theorem sc__law_turned : FnScope ["row", "window", "far", "factors", "d", "out", "i", "k"] ["row", "window", "far"] (defScope s__law_turned) := ⟨rfl, rfl, rfl, by decide +kernel, rfl, by decide +kernel, by decide +kernel⟩
theorem sc__law_bottom : FnScope ["factors", "k"] ["factors"] (defScope s__law_bottom) := ⟨rfl, rfl, rfl, by decide +kernel, rfl, by decide +kernel, by decide +kernel⟩
theorem sc__law_top : FnScope ["series", "bottom", "many", "out", "k", "i"] ["series", "bottom", "many"] (defScope s__law_top) := ⟨rfl, rfl, rfl, by decide +kernel, rfl, by decide +kernel, by decide +kernel⟩
theorem sc__law_poly : FnScope ["worths", "worth"] ["worths"] (defScope s__law_poly) := ⟨rfl, rfl, rfl, by decide +kernel, rfl, by decide +kernel, by decide +kernel⟩
theorem sc__law_at : FnScope ["worths", "x", "num", "den", "scale", "k"] ["worths", "x"] (defScope s__law_at) := ⟨rfl, rfl, rfl, by decide +kernel, rfl, by decide +kernel, by decide +kernel⟩
theorem sc__law_made : FnScope ["source", "row", "factors", "first", "made"] ["source", "row"] (defScope s__law_made) := ⟨rfl, rfl, rfl, by decide +kernel, rfl, by decide +kernel, by decide +kernel⟩
theorem sc__law_is : FnScope ["made", "row"] ["made", "row"] (defScope s__law_is) := ⟨rfl, rfl, rfl, by decide +kernel, rfl, by decide +kernel, by decide +kernel⟩
theorem sc__law_wrong_row : FnScope ["source", "row", "factors", "first", "at", "odd", "rows"] ["source", "row"] (defScope s__law_wrong_row) := ⟨rfl, rfl, rfl, by decide +kernel, rfl, by decide +kernel, by decide +kernel⟩
theorem sc__law_row_refused : FnScope ["pair", "e"] ["pair"] (defScope s__law_row_refused) := ⟨rfl, rfl, rfl, by decide +kernel, rfl, by decide +kernel, by decide +kernel⟩
theorem sc__law_number_refused : FnScope ["made", "bad", "by", "e"] ["made", "bad", "by"] (defScope s__law_number_refused) := ⟨rfl, rfl, rfl, by decide +kernel, rfl, by decide +kernel, by decide +kernel⟩
theorem sc__law_terms_right : FnScope ["source", "row", "made", "window", "far", "d", "step", "k", "shift", "moved", "j", "turned", "back"] ["source", "row", "made", "window", "far"] (defScope s__law_terms_right) := ⟨rfl, rfl, rfl, by decide +kernel, rfl, by decide +kernel, by decide +kernel⟩
theorem sc__law_dues : FnScope ["row", "window", "far", "d", "bottom", "top", "k", "behind", "under"] ["row", "window", "far"] (defScope s__law_dues) := ⟨rfl, rfl, rfl, by decide +kernel, rfl, by decide +kernel, by decide +kernel⟩
theorem sc__law_fractions_right : FnScope ["source", "row", "made", "window", "far", "dues", "told", "back", "many", "series", "k", "product", "due", "num", "x", "turned", "under", "above"] ["source", "row", "made", "window", "far"] (defScope s__law_fractions_right) := ⟨rfl, rfl, rfl, by decide +kernel, rfl, by decide +kernel, by decide +kernel⟩
theorem sc__law_all : FnScope ["script", "source", "one", "two", "far", "window", "other", "first", "second", "bad"] ["script"] (defScope s__law_all) := ⟨rfl, rfl, rfl, by decide +kernel, rfl, by decide +kernel, by decide +kernel⟩
theorem sc_law : FnScope ["script"] ["script"] (defScope s_law) := ⟨rfl, rfl, rfl, by decide +kernel, rfl, by decide +kernel, by decide +kernel⟩
structure Ad where
  is_integer : Addr
  fd_is_integer : FuncData
  is_sequence : Addr
  fd_is_sequence : FuncData
  is_pair : Addr
  fd_is_pair : FuncData
  are_integers : Addr
  fd_are_integers : FuncData
  frozen : Addr
  fd_frozen : FuncData
  InvalidNumber__init : Addr
  fd_InvalidNumber__init : FuncData
  InvalidShare__init : Addr
  fd_InvalidShare__init : FuncData
  InvalidValues__init : Addr
  fd_InvalidValues__init : FuncData
  InvalidRow__init : Addr
  fd_InvalidRow__init : FuncData
  Undefined__init : Addr
  fd_Undefined__init : FuncData
  common_divisor : Addr
  fd_common_divisor : FuncData
  common_multiple : Addr
  fd_common_multiple : FuncData
  is_share : Addr
  fd_is_share : FuncData
  is_amount : Addr
  fd_is_amount : FuncData
  as_share : Addr
  fd_as_share : FuncData
  reduced_pair : Addr
  fd_reduced_pair : FuncData
  less : Addr
  fd_less : FuncData
  over : Addr
  fd_over : FuncData
  common_bottom : Addr
  fd_common_bottom : FuncData
  scaled_to : Addr
  fd_scaled_to : FuncData
  whole_parts : Addr
  fd_whole_parts : FuncData
  poly_from : Addr
  fd_poly_from : FuncData
  combined_polys : Addr
  fd_combined_polys : FuncData
  multiplied_rows : Addr
  fd_multiplied_rows : FuncData
  multiplied_polys : Addr
  fd_multiplied_polys : FuncData
  value_of_rows : Addr
  fd_value_of_rows : FuncData
  value_at : Addr
  fd_value_at : FuncData
  poly_less : Addr
  fd_poly_less : FuncData
  poly_times : Addr
  fd_poly_times : FuncData
  poly_of : Addr
  fd_poly_of : FuncData
  sum_of_products : Addr
  fd_sum_of_products : FuncData
  window_back : Addr
  fd_window_back : FuncData
  terms_back : Addr
  fd_terms_back : FuncData
  no_shift : Addr
  fd_no_shift : FuncData
  shift_forward : Addr
  fd_shift_forward : FuncData
  shift_back : Addr
  fd_shift_back : FuncData
  shift_behind : Addr
  fd_shift_behind : FuncData
  shift_by : Addr
  fd_shift_by : FuncData
  turned_factors : Addr
  fd_turned_factors : FuncData
  bottom_row : Addr
  fd_bottom_row : FuncData
  product_below : Addr
  fd_product_below : FuncData
  Row__init : Addr
  fd_Row__init : FuncData
  Row__term : Addr
  fd_Row__term : FuncData
  Row__moved : Addr
  fd_Row__moved : FuncData
  Row__turned : Addr
  fd_Row__turned : FuncData
  need_integer : Addr
  fd_need_integer : FuncData
  fraction : Addr
  fd_fraction : FuncData
  back_fraction : Addr
  fd_back_fraction : FuncData
  _law_open : Addr
  fd__law_open : FuncData
  _law_draw : Addr
  fd__law_draw : FuncData
  _law_pick : Addr
  fd__law_pick : FuncData
  _law_same : Addr
  fd__law_same : FuncData
  _law_share : Addr
  fd__law_share : FuncData
  _law_worth : Addr
  fd__law_worth : FuncData
  _law_row : Addr
  fd__law_row : FuncData
  _law_window : Addr
  fd__law_window : FuncData
  _law_turned : Addr
  fd__law_turned : FuncData
  _law_bottom : Addr
  fd__law_bottom : FuncData
  _law_top : Addr
  fd__law_top : FuncData
  _law_poly : Addr
  fd__law_poly : FuncData
  _law_at : Addr
  fd__law_at : FuncData
  _law_made : Addr
  fd__law_made : FuncData
  _law_is : Addr
  fd__law_is : FuncData
  _law_wrong_row : Addr
  fd__law_wrong_row : FuncData
  _law_row_refused : Addr
  fd__law_row_refused : FuncData
  _law_number_refused : Addr
  fd__law_number_refused : FuncData
  _law_terms_right : Addr
  fd__law_terms_right : FuncData
  _law_dues : Addr
  fd__law_dues : FuncData
  _law_fractions_right : Addr
  fd__law_fractions_right : FuncData
  _law_all : Addr
  fd__law_all : FuncData
  law : Addr
  fd_law : FuncData
  c_CountError : Addr
  c_InvalidNumber : Addr
  c_InvalidShare : Addr
  c_InvalidValues : Addr
  c_InvalidRow : Addr
  c_Undefined : Addr
  c_Row : Addr
  k_NOUGHT : Addr
structure Txt (K : PySem.W.Frag) (mg : Str → Option Value) (A : Ad) : Prop where
  F_is_integer : Fun K "is_integer" "is_integer" s_is_integer A.is_integer A.fd_is_integer
  m_is_integer : mg "is_integer" = some (.ref A.is_integer)
  F_is_sequence : Fun K "is_sequence" "is_sequence" s_is_sequence A.is_sequence A.fd_is_sequence
  m_is_sequence : mg "is_sequence" = some (.ref A.is_sequence)
  F_is_pair : Fun K "is_pair" "is_pair" s_is_pair A.is_pair A.fd_is_pair
  m_is_pair : mg "is_pair" = some (.ref A.is_pair)
  F_are_integers : Fun K "are_integers" "are_integers" s_are_integers A.are_integers A.fd_are_integers
  m_are_integers : mg "are_integers" = some (.ref A.are_integers)
  F_frozen : Fun K "frozen" "frozen" s_frozen A.frozen A.fd_frozen
  m_frozen : mg "frozen" = some (.ref A.frozen)
  F_InvalidNumber__init : Fun K "__init__" "InvalidNumber.__init__" s_InvalidNumber__init A.InvalidNumber__init A.fd_InvalidNumber__init
  F_InvalidShare__init : Fun K "__init__" "InvalidShare.__init__" s_InvalidShare__init A.InvalidShare__init A.fd_InvalidShare__init
  F_InvalidValues__init : Fun K "__init__" "InvalidValues.__init__" s_InvalidValues__init A.InvalidValues__init A.fd_InvalidValues__init
  F_InvalidRow__init : Fun K "__init__" "InvalidRow.__init__" s_InvalidRow__init A.InvalidRow__init A.fd_InvalidRow__init
  F_Undefined__init : Fun K "__init__" "Undefined.__init__" s_Undefined__init A.Undefined__init A.fd_Undefined__init
  F_common_divisor : Fun K "common_divisor" "common_divisor" s_common_divisor A.common_divisor A.fd_common_divisor
  m_common_divisor : mg "common_divisor" = some (.ref A.common_divisor)
  F_common_multiple : Fun K "common_multiple" "common_multiple" s_common_multiple A.common_multiple A.fd_common_multiple
  m_common_multiple : mg "common_multiple" = some (.ref A.common_multiple)
  F_is_share : Fun K "is_share" "is_share" s_is_share A.is_share A.fd_is_share
  m_is_share : mg "is_share" = some (.ref A.is_share)
  F_is_amount : Fun K "is_amount" "is_amount" s_is_amount A.is_amount A.fd_is_amount
  m_is_amount : mg "is_amount" = some (.ref A.is_amount)
  F_as_share : Fun K "as_share" "as_share" s_as_share A.as_share A.fd_as_share
  m_as_share : mg "as_share" = some (.ref A.as_share)
  F_reduced_pair : Fun K "reduced_pair" "reduced_pair" s_reduced_pair A.reduced_pair A.fd_reduced_pair
  m_reduced_pair : mg "reduced_pair" = some (.ref A.reduced_pair)
  F_less : Fun K "less" "less" s_less A.less A.fd_less
  m_less : mg "less" = some (.ref A.less)
  F_over : Fun K "over" "over" s_over A.over A.fd_over
  m_over : mg "over" = some (.ref A.over)
  F_common_bottom : Fun K "common_bottom" "common_bottom" s_common_bottom A.common_bottom A.fd_common_bottom
  m_common_bottom : mg "common_bottom" = some (.ref A.common_bottom)
  F_scaled_to : Fun K "scaled_to" "scaled_to" s_scaled_to A.scaled_to A.fd_scaled_to
  m_scaled_to : mg "scaled_to" = some (.ref A.scaled_to)
  F_whole_parts : Fun K "whole_parts" "whole_parts" s_whole_parts A.whole_parts A.fd_whole_parts
  m_whole_parts : mg "whole_parts" = some (.ref A.whole_parts)
  F_poly_from : Fun K "poly_from" "poly_from" s_poly_from A.poly_from A.fd_poly_from
  m_poly_from : mg "poly_from" = some (.ref A.poly_from)
  F_combined_polys : Fun K "combined_polys" "combined_polys" s_combined_polys A.combined_polys A.fd_combined_polys
  m_combined_polys : mg "combined_polys" = some (.ref A.combined_polys)
  F_multiplied_rows : Fun K "multiplied_rows" "multiplied_rows" s_multiplied_rows A.multiplied_rows A.fd_multiplied_rows
  m_multiplied_rows : mg "multiplied_rows" = some (.ref A.multiplied_rows)
  F_multiplied_polys : Fun K "multiplied_polys" "multiplied_polys" s_multiplied_polys A.multiplied_polys A.fd_multiplied_polys
  m_multiplied_polys : mg "multiplied_polys" = some (.ref A.multiplied_polys)
  F_value_of_rows : Fun K "value_of_rows" "value_of_rows" s_value_of_rows A.value_of_rows A.fd_value_of_rows
  m_value_of_rows : mg "value_of_rows" = some (.ref A.value_of_rows)
  F_value_at : Fun K "value_at" "value_at" s_value_at A.value_at A.fd_value_at
  m_value_at : mg "value_at" = some (.ref A.value_at)
  F_poly_less : Fun K "poly_less" "poly_less" s_poly_less A.poly_less A.fd_poly_less
  m_poly_less : mg "poly_less" = some (.ref A.poly_less)
  F_poly_times : Fun K "poly_times" "poly_times" s_poly_times A.poly_times A.fd_poly_times
  m_poly_times : mg "poly_times" = some (.ref A.poly_times)
  F_poly_of : Fun K "poly_of" "poly_of" s_poly_of A.poly_of A.fd_poly_of
  m_poly_of : mg "poly_of" = some (.ref A.poly_of)
  F_sum_of_products : Fun K "sum_of_products" "sum_of_products" s_sum_of_products A.sum_of_products A.fd_sum_of_products
  m_sum_of_products : mg "sum_of_products" = some (.ref A.sum_of_products)
  F_window_back : Fun K "window_back" "window_back" s_window_back A.window_back A.fd_window_back
  m_window_back : mg "window_back" = some (.ref A.window_back)
  F_terms_back : Fun K "terms_back" "terms_back" s_terms_back A.terms_back A.fd_terms_back
  m_terms_back : mg "terms_back" = some (.ref A.terms_back)
  F_no_shift : Fun K "no_shift" "no_shift" s_no_shift A.no_shift A.fd_no_shift
  m_no_shift : mg "no_shift" = some (.ref A.no_shift)
  F_shift_forward : Fun K "shift_forward" "shift_forward" s_shift_forward A.shift_forward A.fd_shift_forward
  m_shift_forward : mg "shift_forward" = some (.ref A.shift_forward)
  F_shift_back : Fun K "shift_back" "shift_back" s_shift_back A.shift_back A.fd_shift_back
  m_shift_back : mg "shift_back" = some (.ref A.shift_back)
  F_shift_behind : Fun K "shift_behind" "shift_behind" s_shift_behind A.shift_behind A.fd_shift_behind
  m_shift_behind : mg "shift_behind" = some (.ref A.shift_behind)
  F_shift_by : Fun K "shift_by" "shift_by" s_shift_by A.shift_by A.fd_shift_by
  m_shift_by : mg "shift_by" = some (.ref A.shift_by)
  F_turned_factors : Fun K "turned_factors" "turned_factors" s_turned_factors A.turned_factors A.fd_turned_factors
  m_turned_factors : mg "turned_factors" = some (.ref A.turned_factors)
  F_bottom_row : Fun K "bottom_row" "bottom_row" s_bottom_row A.bottom_row A.fd_bottom_row
  m_bottom_row : mg "bottom_row" = some (.ref A.bottom_row)
  F_product_below : Fun K "product_below" "product_below" s_product_below A.product_below A.fd_product_below
  m_product_below : mg "product_below" = some (.ref A.product_below)
  F_Row__init : Fun K "__init__" "Row.__init__" s_Row__init A.Row__init A.fd_Row__init
  F_Row__term : Fun K "term" "Row.term" s_Row__term A.Row__term A.fd_Row__term
  F_Row__moved : Fun K "moved" "Row.moved" s_Row__moved A.Row__moved A.fd_Row__moved
  F_Row__turned : Fun K "turned" "Row.turned" s_Row__turned A.Row__turned A.fd_Row__turned
  F_need_integer : Fun K "need_integer" "need_integer" s_need_integer A.need_integer A.fd_need_integer
  m_need_integer : mg "need_integer" = some (.ref A.need_integer)
  F_fraction : Fun K "fraction" "fraction" s_fraction A.fraction A.fd_fraction
  m_fraction : mg "fraction" = some (.ref A.fraction)
  F_back_fraction : Fun K "back_fraction" "back_fraction" s_back_fraction A.back_fraction A.fd_back_fraction
  m_back_fraction : mg "back_fraction" = some (.ref A.back_fraction)
  F__law_open : Fun K "_law_open" "_law_open" s__law_open A._law_open A.fd__law_open
  m__law_open : mg "_law_open" = some (.ref A._law_open)
  F__law_draw : Fun K "_law_draw" "_law_draw" s__law_draw A._law_draw A.fd__law_draw
  m__law_draw : mg "_law_draw" = some (.ref A._law_draw)
  F__law_pick : Fun K "_law_pick" "_law_pick" s__law_pick A._law_pick A.fd__law_pick
  m__law_pick : mg "_law_pick" = some (.ref A._law_pick)
  F__law_same : Fun K "_law_same" "_law_same" s__law_same A._law_same A.fd__law_same
  m__law_same : mg "_law_same" = some (.ref A._law_same)
  F__law_share : Fun K "_law_share" "_law_share" s__law_share A._law_share A.fd__law_share
  m__law_share : mg "_law_share" = some (.ref A._law_share)
  F__law_worth : Fun K "_law_worth" "_law_worth" s__law_worth A._law_worth A.fd__law_worth
  m__law_worth : mg "_law_worth" = some (.ref A._law_worth)
  F__law_row : Fun K "_law_row" "_law_row" s__law_row A._law_row A.fd__law_row
  m__law_row : mg "_law_row" = some (.ref A._law_row)
  F__law_window : Fun K "_law_window" "_law_window" s__law_window A._law_window A.fd__law_window
  m__law_window : mg "_law_window" = some (.ref A._law_window)
  F__law_turned : Fun K "_law_turned" "_law_turned" s__law_turned A._law_turned A.fd__law_turned
  m__law_turned : mg "_law_turned" = some (.ref A._law_turned)
  F__law_bottom : Fun K "_law_bottom" "_law_bottom" s__law_bottom A._law_bottom A.fd__law_bottom
  m__law_bottom : mg "_law_bottom" = some (.ref A._law_bottom)
  F__law_top : Fun K "_law_top" "_law_top" s__law_top A._law_top A.fd__law_top
  m__law_top : mg "_law_top" = some (.ref A._law_top)
  F__law_poly : Fun K "_law_poly" "_law_poly" s__law_poly A._law_poly A.fd__law_poly
  m__law_poly : mg "_law_poly" = some (.ref A._law_poly)
  F__law_at : Fun K "_law_at" "_law_at" s__law_at A._law_at A.fd__law_at
  m__law_at : mg "_law_at" = some (.ref A._law_at)
  F__law_made : Fun K "_law_made" "_law_made" s__law_made A._law_made A.fd__law_made
  m__law_made : mg "_law_made" = some (.ref A._law_made)
  F__law_is : Fun K "_law_is" "_law_is" s__law_is A._law_is A.fd__law_is
  m__law_is : mg "_law_is" = some (.ref A._law_is)
  F__law_wrong_row : Fun K "_law_wrong_row" "_law_wrong_row" s__law_wrong_row A._law_wrong_row A.fd__law_wrong_row
  m__law_wrong_row : mg "_law_wrong_row" = some (.ref A._law_wrong_row)
  F__law_row_refused : Fun K "_law_row_refused" "_law_row_refused" s__law_row_refused A._law_row_refused A.fd__law_row_refused
  m__law_row_refused : mg "_law_row_refused" = some (.ref A._law_row_refused)
  F__law_number_refused : Fun K "_law_number_refused" "_law_number_refused" s__law_number_refused A._law_number_refused A.fd__law_number_refused
  m__law_number_refused : mg "_law_number_refused" = some (.ref A._law_number_refused)
  F__law_terms_right : Fun K "_law_terms_right" "_law_terms_right" s__law_terms_right A._law_terms_right A.fd__law_terms_right
  m__law_terms_right : mg "_law_terms_right" = some (.ref A._law_terms_right)
  F__law_dues : Fun K "_law_dues" "_law_dues" s__law_dues A._law_dues A.fd__law_dues
  m__law_dues : mg "_law_dues" = some (.ref A._law_dues)
  F__law_fractions_right : Fun K "_law_fractions_right" "_law_fractions_right" s__law_fractions_right A._law_fractions_right A.fd__law_fractions_right
  m__law_fractions_right : mg "_law_fractions_right" = some (.ref A._law_fractions_right)
  F__law_all : Fun K "_law_all" "_law_all" s__law_all A._law_all A.fd__law_all
  m__law_all : mg "_law_all" = some (.ref A._law_all)
  F_law : Fun K "law" "law" s_law A.law A.fd_law
  m_law : mg "law" = some (.ref A.law)
  m_CountError : mg "CountError" = some (.ref A.c_CountError)
  te_CountError : PySem.W.exmOne K (.ref A.c_CountError) (.ref A.c_CountError) = some true
  m_InvalidNumber : mg "InvalidNumber" = some (.ref A.c_InvalidNumber)
  te_InvalidNumber : PySem.W.exmOne K (.ref A.c_InvalidNumber) (.ref A.c_InvalidNumber) = some true
  te_InvalidNumber_CountError : PySem.W.exmOne K (.ref A.c_InvalidNumber) (.ref A.c_CountError) = some true
  ox_InvalidNumber : OexC K A.c_InvalidNumber
  xf_InvalidNumber : XfC K A.c_InvalidNumber
  ec_InvalidNumber : ExcC K A.c_InvalidNumber
  i_InvalidNumber : PySem.W.findIn K (.ref A.c_InvalidNumber) "__init__" = some (some (.ref A.InvalidNumber__init))
  t_InvalidNumber : PySem.W.typeIn K (.ref A.InvalidNumber__init) = some (.type "function")
  no_InvalidNumber_value : PySem.W.findIn K (.ref A.c_InvalidNumber) "value" = some none
  kx_InvalidNumber_InvalidRow : PySem.W.kitOne K (.ref A.c_InvalidNumber) (.ref A.c_InvalidRow) = some false
  kx_InvalidNumber_InvalidShare : PySem.W.kitOne K (.ref A.c_InvalidNumber) (.ref A.c_InvalidShare) = some false
  kx_InvalidNumber_InvalidNumber : PySem.W.kitOne K (.ref A.c_InvalidNumber) (.ref A.c_InvalidNumber) = some true
  m_InvalidShare : mg "InvalidShare" = some (.ref A.c_InvalidShare)
  te_InvalidShare : PySem.W.exmOne K (.ref A.c_InvalidShare) (.ref A.c_InvalidShare) = some true
  te_InvalidShare_CountError : PySem.W.exmOne K (.ref A.c_InvalidShare) (.ref A.c_CountError) = some true
  ox_InvalidShare : OexC K A.c_InvalidShare
  xf_InvalidShare : XfC K A.c_InvalidShare
  i_InvalidShare : PySem.W.findIn K (.ref A.c_InvalidShare) "__init__" = some (some (.ref A.InvalidShare__init))
  t_InvalidShare : PySem.W.typeIn K (.ref A.InvalidShare__init) = some (.type "function")
  no_InvalidShare_value : PySem.W.findIn K (.ref A.c_InvalidShare) "value" = some none
  m_InvalidValues : mg "InvalidValues" = some (.ref A.c_InvalidValues)
  te_InvalidValues : PySem.W.exmOne K (.ref A.c_InvalidValues) (.ref A.c_InvalidValues) = some true
  te_InvalidValues_CountError : PySem.W.exmOne K (.ref A.c_InvalidValues) (.ref A.c_CountError) = some true
  ox_InvalidValues : OexC K A.c_InvalidValues
  xf_InvalidValues : XfC K A.c_InvalidValues
  i_InvalidValues : PySem.W.findIn K (.ref A.c_InvalidValues) "__init__" = some (some (.ref A.InvalidValues__init))
  t_InvalidValues : PySem.W.typeIn K (.ref A.InvalidValues__init) = some (.type "function")
  no_InvalidValues_value : PySem.W.findIn K (.ref A.c_InvalidValues) "value" = some none
  m_InvalidRow : mg "InvalidRow" = some (.ref A.c_InvalidRow)
  te_InvalidRow : PySem.W.exmOne K (.ref A.c_InvalidRow) (.ref A.c_InvalidRow) = some true
  te_InvalidRow_CountError : PySem.W.exmOne K (.ref A.c_InvalidRow) (.ref A.c_CountError) = some true
  ox_InvalidRow : OexC K A.c_InvalidRow
  xf_InvalidRow : XfC K A.c_InvalidRow
  ec_InvalidRow : ExcC K A.c_InvalidRow
  i_InvalidRow : PySem.W.findIn K (.ref A.c_InvalidRow) "__init__" = some (some (.ref A.InvalidRow__init))
  t_InvalidRow : PySem.W.typeIn K (.ref A.InvalidRow__init) = some (.type "function")
  no_InvalidRow_value : PySem.W.findIn K (.ref A.c_InvalidRow) "value" = some none
  kx_InvalidRow_InvalidNumber : PySem.W.kitOne K (.ref A.c_InvalidRow) (.ref A.c_InvalidNumber) = some false
  kx_InvalidRow_InvalidShare : PySem.W.kitOne K (.ref A.c_InvalidRow) (.ref A.c_InvalidShare) = some false
  kx_InvalidRow_InvalidValues : PySem.W.kitOne K (.ref A.c_InvalidRow) (.ref A.c_InvalidValues) = some false
  kx_InvalidRow_InvalidRow : PySem.W.kitOne K (.ref A.c_InvalidRow) (.ref A.c_InvalidRow) = some true
  m_Undefined : mg "Undefined" = some (.ref A.c_Undefined)
  te_Undefined : PySem.W.exmOne K (.ref A.c_Undefined) (.ref A.c_Undefined) = some true
  te_Undefined_CountError : PySem.W.exmOne K (.ref A.c_Undefined) (.ref A.c_CountError) = some true
  ox_Undefined : OexC K A.c_Undefined
  xf_Undefined : XfC K A.c_Undefined
  i_Undefined : PySem.W.findIn K (.ref A.c_Undefined) "__init__" = some (some (.ref A.Undefined__init))
  t_Undefined : PySem.W.typeIn K (.ref A.Undefined__init) = some (.type "function")
  no_Undefined_what : PySem.W.findIn K (.ref A.c_Undefined) "what" = some none
  m_Row : mg "Row" = some (.ref A.c_Row)
  cl_Row : Cls K A.c_Row
  ot_Row : Dl.ObjTy K A.c_Row
  kt_Row_int : PySem.W.kitOne K (.ref A.c_Row) (.type "int") = some false
  kt_Row_bool : PySem.W.kitOne K (.ref A.c_Row) (.type "bool") = some false
  kt_Row_tuple : PySem.W.kitOne K (.ref A.c_Row) (.type "tuple") = some false
  kt_Row_list : PySem.W.kitOne K (.ref A.c_Row) (.type "list") = some false
  kt_Row_str : PySem.W.kitOne K (.ref A.c_Row) (.type "str") = some false
  mk_Row : Mk K A.c_Row A.Row__init
  me_Row__term : Meth K A.c_Row "term" A.Row__term
  me_Row__moved : Meth K A.c_Row "moved" A.Row__moved
  me_Row__turned : Meth K A.c_Row "turned" A.Row__turned
  no_Row_factors : PySem.W.findIn K (.ref A.c_Row) "factors" = some none
  no_Row_first : PySem.W.findIn K (.ref A.c_Row) "first" = some none
  kx_Row_Row : PySem.W.kitOne K (.ref A.c_Row) (.ref A.c_Row) = some true
  m_NOUGHT : mg "NOUGHT" = some (.ref A.k_NOUGHT)
  k_NOUGHT : ∀ H, SqT K H A.k_NOUGHT [V.int 0, V.int 1]
  b_abs : mg "abs" = none
  b_len : mg "len" = none
  b_range : mg "range" = none
  b_int : mg "int" = none
  b_str : mg "str" = none
  b_isinstance : mg "isinstance" = none
  b_tuple : mg "tuple" = none
  b_list : mg "list" = none
  b_sum : mg "sum" = none
  b_min : mg "min" = none
  b_max : mg "max" = none
  b_all : mg "all" = none
  b_enumerate : mg "enumerate" = none
  b_zip : mg "zip" = none
  b_reversed : mg "reversed" = none
  b_bool : mg "bool" = none
  b_ValueError : mg "ValueError" = none
theorem all_mk {K : PySem.W.Frag} {h : Heap} {mg : Str → Option Value} {fa : Addr} (X : K.In h) (G : h.Ns mainGlobals mg) (hfa : mg "law" = some (.ref fa))
    {oc1 kV1 dc1 pm1 cd1 ct1 : Value} {od1 an1 : Option Addr} {sl1 : Array (Option Value)}
    {f1 : Addr}
    {oc2 kV2 dc2 pm2 cd2 ct2 : Value} {od2 an2 : Option Addr} {sl2 : Array (Option Value)}
    {f2 : Addr}
    {oc3 kV3 dc3 pm3 cd3 ct3 : Value} {od3 an3 : Option Addr} {sl3 : Array (Option Value)}
    {f3 : Addr}
    {oc4 kV4 dc4 pm4 cd4 ct4 : Value} {od4 an4 : Option Addr} {sl4 : Array (Option Value)}
    {f4 : Addr}
    {oc5 kV5 dc5 pm5 cd5 ct5 : Value} {od5 an5 : Option Addr} {sl5 : Array (Option Value)}
    {f5 : Addr}
    {oc6 kV6 dc6 pm6 cd6 ct6 : Value} {od6 an6 : Option Addr} {sl6 : Array (Option Value)}
    {f6 : Addr}
    {oc7 kV7 dc7 pm7 cd7 ct7 : Value} {od7 an7 : Option Addr} {sl7 : Array (Option Value)}
    {f7 : Addr}
    {oc8 kV8 dc8 pm8 cd8 ct8 : Value} {od8 an8 : Option Addr} {sl8 : Array (Option Value)}
    {f8 : Addr}
    {oc9 kV9 dc9 pm9 cd9 ct9 : Value} {od9 an9 : Option Addr} {sl9 : Array (Option Value)}
    {f9 : Addr}
    {oc10 kV10 dc10 pm10 cd10 ct10 : Value} {od10 an10 : Option Addr} {sl10 : Array (Option Value)}
    {f10 : Addr}
    {oc11 kV11 dc11 pm11 cd11 ct11 : Value} {od11 an11 : Option Addr} {sl11 : Array (Option Value)}
    {f11 : Addr}
    {oc12 kV12 dc12 pm12 cd12 ct12 : Value} {od12 an12 : Option Addr} {sl12 : Array (Option Value)}
    {f12 : Addr}
    {oc13 kV13 dc13 pm13 cd13 ct13 : Value} {od13 an13 : Option Addr} {sl13 : Array (Option Value)}
    {f13 : Addr}
    {oc14 kV14 dc14 pm14 cd14 ct14 : Value} {od14 an14 : Option Addr} {sl14 : Array (Option Value)}
    {f14 : Addr}
    {oc15 kV15 dc15 pm15 cd15 ct15 : Value} {od15 an15 : Option Addr} {sl15 : Array (Option Value)}
    {f15 : Addr}
    {oc16 kV16 dc16 pm16 cd16 ct16 : Value} {od16 an16 : Option Addr} {sl16 : Array (Option Value)}
    {f16 : Addr}
    {oc17 kV17 dc17 pm17 cd17 ct17 : Value} {od17 an17 : Option Addr} {sl17 : Array (Option Value)}
    {f17 : Addr}
    {oc18 kV18 dc18 pm18 cd18 ct18 : Value} {od18 an18 : Option Addr} {sl18 : Array (Option Value)}
    {f18 : Addr}
    {oc19 kV19 dc19 pm19 cd19 ct19 : Value} {od19 an19 : Option Addr} {sl19 : Array (Option Value)}
    {f19 : Addr}
    {oc20 kV20 dc20 pm20 cd20 ct20 : Value} {od20 an20 : Option Addr} {sl20 : Array (Option Value)}
    {f20 : Addr}
    {oc21 kV21 dc21 pm21 cd21 ct21 : Value} {od21 an21 : Option Addr} {sl21 : Array (Option Value)}
    {f21 : Addr}
    {oc22 kV22 dc22 pm22 cd22 ct22 : Value} {od22 an22 : Option Addr} {sl22 : Array (Option Value)}
    {f22 : Addr}
    {oc23 kV23 dc23 pm23 cd23 ct23 : Value} {od23 an23 : Option Addr} {sl23 : Array (Option Value)}
    {f23 : Addr}
    {oc24 kV24 dc24 pm24 cd24 ct24 : Value} {od24 an24 : Option Addr} {sl24 : Array (Option Value)}
    {f24 : Addr}
    {oc25 kV25 dc25 pm25 cd25 ct25 : Value} {od25 an25 : Option Addr} {sl25 : Array (Option Value)}
    {f25 : Addr}
    {oc26 kV26 dc26 pm26 cd26 ct26 : Value} {od26 an26 : Option Addr} {sl26 : Array (Option Value)}
    {f26 : Addr}
    {oc27 kV27 dc27 pm27 cd27 ct27 : Value} {od27 an27 : Option Addr} {sl27 : Array (Option Value)}
    {f27 : Addr}
    {oc28 kV28 dc28 pm28 cd28 ct28 : Value} {od28 an28 : Option Addr} {sl28 : Array (Option Value)}
    {f28 : Addr}
    {oc29 kV29 dc29 pm29 cd29 ct29 : Value} {od29 an29 : Option Addr} {sl29 : Array (Option Value)}
    {f29 : Addr}
    {oc30 kV30 dc30 pm30 cd30 ct30 : Value} {od30 an30 : Option Addr} {sl30 : Array (Option Value)}
    {f30 : Addr}
    {oc31 kV31 dc31 pm31 cd31 ct31 : Value} {od31 an31 : Option Addr} {sl31 : Array (Option Value)}
    {f31 : Addr}
    {oc32 kV32 dc32 pm32 cd32 ct32 : Value} {od32 an32 : Option Addr} {sl32 : Array (Option Value)}
    {f32 : Addr}
    {oc33 kV33 dc33 pm33 cd33 ct33 : Value} {od33 an33 : Option Addr} {sl33 : Array (Option Value)}
    {f33 : Addr}
    {oc34 kV34 dc34 pm34 cd34 ct34 : Value} {od34 an34 : Option Addr} {sl34 : Array (Option Value)}
    {f34 : Addr}
    {oc35 kV35 dc35 pm35 cd35 ct35 : Value} {od35 an35 : Option Addr} {sl35 : Array (Option Value)}
    {f35 : Addr}
    {oc36 kV36 dc36 pm36 cd36 ct36 : Value} {od36 an36 : Option Addr} {sl36 : Array (Option Value)}
    {f36 : Addr}
    {oc37 kV37 dc37 pm37 cd37 ct37 : Value} {od37 an37 : Option Addr} {sl37 : Array (Option Value)}
    {f37 : Addr}
    {oc38 kV38 dc38 pm38 cd38 ct38 : Value} {od38 an38 : Option Addr} {sl38 : Array (Option Value)}
    {f38 : Addr}
    {oc39 kV39 dc39 pm39 cd39 ct39 : Value} {od39 an39 : Option Addr} {sl39 : Array (Option Value)}
    {f39 : Addr}
    {oc40 kV40 dc40 pm40 cd40 ct40 : Value} {od40 an40 : Option Addr} {sl40 : Array (Option Value)}
    {f40 : Addr}
    {oc41 kV41 dc41 pm41 cd41 ct41 : Value} {od41 an41 : Option Addr} {sl41 : Array (Option Value)}
    {f41 : Addr}
    {oc42 kV42 dc42 pm42 cd42 ct42 : Value} {od42 an42 : Option Addr} {sl42 : Array (Option Value)}
    {f42 : Addr}
    {oc43 kV43 dc43 pm43 cd43 ct43 : Value} {od43 an43 : Option Addr} {sl43 : Array (Option Value)}
    {f43 : Addr}
    {oc44 kV44 dc44 pm44 cd44 ct44 : Value} {od44 an44 : Option Addr} {sl44 : Array (Option Value)}
    {f44 : Addr}
    {oc45 kV45 dc45 pm45 cd45 ct45 : Value} {od45 an45 : Option Addr} {sl45 : Array (Option Value)}
    {f45 : Addr}
    {oc46 kV46 dc46 pm46 cd46 ct46 : Value} {od46 an46 : Option Addr} {sl46 : Array (Option Value)}
    {f46 : Addr}
    {oc47 kV47 dc47 pm47 cd47 ct47 : Value} {od47 an47 : Option Addr} {sl47 : Array (Option Value)}
    {f47 : Addr}
    {oc48 kV48 dc48 pm48 cd48 ct48 : Value} {od48 an48 : Option Addr} {sl48 : Array (Option Value)}
    {f48 : Addr}
    {oc49 kV49 dc49 pm49 cd49 ct49 : Value} {od49 an49 : Option Addr} {sl49 : Array (Option Value)}
    {f49 : Addr}
    {oc50 kV50 dc50 pm50 cd50 ct50 : Value} {od50 an50 : Option Addr} {sl50 : Array (Option Value)}
    {f50 : Addr}
    {oc51 kV51 dc51 pm51 cd51 ct51 : Value} {od51 an51 : Option Addr} {sl51 : Array (Option Value)}
    {f51 : Addr}
    {oc52 kV52 dc52 pm52 cd52 ct52 : Value} {od52 an52 : Option Addr} {sl52 : Array (Option Value)}
    {f52 : Addr}
    {oc53 kV53 dc53 pm53 cd53 ct53 : Value} {od53 an53 : Option Addr} {sl53 : Array (Option Value)}
    {f53 : Addr}
    {oc54 kV54 dc54 pm54 cd54 ct54 : Value} {od54 an54 : Option Addr} {sl54 : Array (Option Value)}
    {f54 : Addr}
    {oc55 kV55 dc55 pm55 cd55 ct55 : Value} {od55 an55 : Option Addr} {sl55 : Array (Option Value)}
    {f55 : Addr}
    {oc56 kV56 dc56 pm56 cd56 ct56 : Value} {od56 an56 : Option Addr} {sl56 : Array (Option Value)}
    {f56 : Addr}
    {oc57 kV57 dc57 pm57 cd57 ct57 : Value} {od57 an57 : Option Addr} {sl57 : Array (Option Value)}
    {f57 : Addr}
    {oc58 kV58 dc58 pm58 cd58 ct58 : Value} {od58 an58 : Option Addr} {sl58 : Array (Option Value)}
    {f58 : Addr}
    {oc59 kV59 dc59 pm59 cd59 ct59 : Value} {od59 an59 : Option Addr} {sl59 : Array (Option Value)}
    {f59 : Addr}
    {oc60 kV60 dc60 pm60 cd60 ct60 : Value} {od60 an60 : Option Addr} {sl60 : Array (Option Value)}
    {f60 : Addr}
    {oc61 kV61 dc61 pm61 cd61 ct61 : Value} {od61 an61 : Option Addr} {sl61 : Array (Option Value)}
    {f61 : Addr}
    {oc62 kV62 dc62 pm62 cd62 ct62 : Value} {od62 an62 : Option Addr} {sl62 : Array (Option Value)}
    {f62 : Addr}
    {oc63 kV63 dc63 pm63 cd63 ct63 : Value} {od63 an63 : Option Addr} {sl63 : Array (Option Value)}
    {f63 : Addr}
    {oc64 kV64 dc64 pm64 cd64 ct64 : Value} {od64 an64 : Option Addr} {sl64 : Array (Option Value)}
    {f64 : Addr}
    {oc65 kV65 dc65 pm65 cd65 ct65 : Value} {od65 an65 : Option Addr} {sl65 : Array (Option Value)}
    {f65 : Addr}
    {oc66 kV66 dc66 pm66 cd66 ct66 : Value} {od66 an66 : Option Addr} {sl66 : Array (Option Value)}
    {f66 : Addr}
    {oc67 kV67 dc67 pm67 cd67 ct67 : Value} {od67 an67 : Option Addr} {sl67 : Array (Option Value)}
    {f67 : Addr}
    {oc68 kV68 dc68 pm68 cd68 ct68 : Value} {od68 an68 : Option Addr} {sl68 : Array (Option Value)}
    {f68 : Addr}
    {oc69 kV69 dc69 pm69 cd69 ct69 : Value} {od69 an69 : Option Addr} {sl69 : Array (Option Value)}
    {f69 : Addr}
    {oc70 kV70 dc70 pm70 cd70 ct70 : Value} {od70 an70 : Option Addr} {sl70 : Array (Option Value)}
    {f70 : Addr}
    {oc71 kV71 dc71 pm71 cd71 ct71 : Value} {od71 an71 : Option Addr} {sl71 : Array (Option Value)}
    {f71 : Addr}
    {C0 : Addr}
    {nm0 q0 : Str} {N0 : Addr} {bs0 : List Value} {sn0 : List Str} {sub0 : List Value} {ab0 : Bool} {col0 : Option Bool} {dd0 : Option Addr} {ma0 mb0 mc0 me0 mf0 : Option Value}
    {C1 : Addr}
    {nm1 q1 : Str} {N1 : Addr} {bs1 : List Value} {sn1 : List Str} {sub1 : List Value} {ab1 : Bool} {col1 : Option Bool} {dd1 : Option Addr} {ma1 mb1 mc1 me1 mf1 : Option Value}
    {C2 : Addr}
    {nm2 q2 : Str} {N2 : Addr} {bs2 : List Value} {sn2 : List Str} {sub2 : List Value} {ab2 : Bool} {col2 : Option Bool} {dd2 : Option Addr} {ma2 mb2 mc2 me2 mf2 : Option Value}
    {C3 : Addr}
    {nm3 q3 : Str} {N3 : Addr} {bs3 : List Value} {sn3 : List Str} {sub3 : List Value} {ab3 : Bool} {col3 : Option Bool} {dd3 : Option Addr} {ma3 mb3 mc3 me3 mf3 : Option Value}
    {C4 : Addr}
    {nm4 q4 : Str} {N4 : Addr} {bs4 : List Value} {sn4 : List Str} {sub4 : List Value} {ab4 : Bool} {col4 : Option Bool} {dd4 : Option Addr} {ma4 mb4 mc4 me4 mf4 : Option Value}
    {C5 : Addr}
    {nm5 q5 : Str} {N5 : Addr} {bs5 : List Value} {sn5 : List Str} {sub5 : List Value} {ab5 : Bool} {col5 : Option Bool} {dd5 : Option Addr} {ma5 mb5 mc5 me5 mf5 : Option Value}
    {C6 : Addr}
    {K0 : Addr}
    {tk0_0 tk0_1 : Tok}
    {Kd0 : Option Addr} {Ks0 : Array (Option Value)}
    (aC0 : PySem.W.nsIn K mainGlobals "CountError" = some (some (.ref C0)))
    (aC1 : PySem.W.nsIn K mainGlobals "InvalidNumber" = some (some (.ref C1)))
    (aC2 : PySem.W.nsIn K mainGlobals "InvalidShare" = some (some (.ref C2)))
    (aC3 : PySem.W.nsIn K mainGlobals "InvalidValues" = some (some (.ref C3)))
    (aC4 : PySem.W.nsIn K mainGlobals "InvalidRow" = some (some (.ref C4)))
    (aC5 : PySem.W.nsIn K mainGlobals "Undefined" = some (some (.ref C5)))
    (aC6 : PySem.W.nsIn K mainGlobals "Row" = some (some (.ref C6)))
    (a1 : PySem.W.nsIn K mainGlobals "is_integer" = some (some (.ref f1)))
    (l1 : K.lookup f1 = some ⟨oc1, od1, .func (PySem.W.fnOf "is_integer" "is_integer" (defArgs s_is_integer) (defBody s_is_integer) (defScope s_is_integer) .none kV1 dc1 pm1 an1 cd1 ct1), sl1⟩)
    (c1 : PySem.W.codeIn K cd1 "is_integer" = true)
    (k1 : PySem.W.keepIn K (.ref f1) = true)
    (a2 : PySem.W.nsIn K mainGlobals "is_sequence" = some (some (.ref f2)))
    (l2 : K.lookup f2 = some ⟨oc2, od2, .func (PySem.W.fnOf "is_sequence" "is_sequence" (defArgs s_is_sequence) (defBody s_is_sequence) (defScope s_is_sequence) .none kV2 dc2 pm2 an2 cd2 ct2), sl2⟩)
    (c2 : PySem.W.codeIn K cd2 "is_sequence" = true)
    (k2 : PySem.W.keepIn K (.ref f2) = true)
    (a3 : PySem.W.nsIn K mainGlobals "is_pair" = some (some (.ref f3)))
    (l3 : K.lookup f3 = some ⟨oc3, od3, .func (PySem.W.fnOf "is_pair" "is_pair" (defArgs s_is_pair) (defBody s_is_pair) (defScope s_is_pair) .none kV3 dc3 pm3 an3 cd3 ct3), sl3⟩)
    (c3 : PySem.W.codeIn K cd3 "is_pair" = true)
    (k3 : PySem.W.keepIn K (.ref f3) = true)
    (a4 : PySem.W.nsIn K mainGlobals "are_integers" = some (some (.ref f4)))
    (l4 : K.lookup f4 = some ⟨oc4, od4, .func (PySem.W.fnOf "are_integers" "are_integers" (defArgs s_are_integers) (defBody s_are_integers) (defScope s_are_integers) .none kV4 dc4 pm4 an4 cd4 ct4), sl4⟩)
    (c4 : PySem.W.codeIn K cd4 "are_integers" = true)
    (k4 : PySem.W.keepIn K (.ref f4) = true)
    (a5 : PySem.W.nsIn K mainGlobals "frozen" = some (some (.ref f5)))
    (l5 : K.lookup f5 = some ⟨oc5, od5, .func (PySem.W.fnOf "frozen" "frozen" (defArgs s_frozen) (defBody s_frozen) (defScope s_frozen) .none kV5 dc5 pm5 an5 cd5 ct5), sl5⟩)
    (c5 : PySem.W.codeIn K cd5 "frozen" = true)
    (k5 : PySem.W.keepIn K (.ref f5) = true)
    (a6 : PySem.W.findIn K (.ref C1) "__init__" = some (some (.ref f6)))
    (t6 : PySem.W.typeIn K (.ref f6) = some (.type "function"))
    (l6 : K.lookup f6 = some ⟨oc6, od6, .func (PySem.W.fnOf "__init__" "InvalidNumber.__init__" (defArgs s_InvalidNumber__init) (defBody s_InvalidNumber__init) (defScope s_InvalidNumber__init) .none kV6 dc6 pm6 an6 cd6 ct6), sl6⟩)
    (c6 : PySem.W.codeIn K cd6 "InvalidNumber.__init__" = true)
    (k6 : PySem.W.keepIn K (.ref f6) = true)
    (a7 : PySem.W.findIn K (.ref C2) "__init__" = some (some (.ref f7)))
    (t7 : PySem.W.typeIn K (.ref f7) = some (.type "function"))
    (l7 : K.lookup f7 = some ⟨oc7, od7, .func (PySem.W.fnOf "__init__" "InvalidShare.__init__" (defArgs s_InvalidShare__init) (defBody s_InvalidShare__init) (defScope s_InvalidShare__init) .none kV7 dc7 pm7 an7 cd7 ct7), sl7⟩)
    (c7 : PySem.W.codeIn K cd7 "InvalidShare.__init__" = true)
    (k7 : PySem.W.keepIn K (.ref f7) = true)
    (a8 : PySem.W.findIn K (.ref C3) "__init__" = some (some (.ref f8)))
    (t8 : PySem.W.typeIn K (.ref f8) = some (.type "function"))
    (l8 : K.lookup f8 = some ⟨oc8, od8, .func (PySem.W.fnOf "__init__" "InvalidValues.__init__" (defArgs s_InvalidValues__init) (defBody s_InvalidValues__init) (defScope s_InvalidValues__init) .none kV8 dc8 pm8 an8 cd8 ct8), sl8⟩)
    (c8 : PySem.W.codeIn K cd8 "InvalidValues.__init__" = true)
    (k8 : PySem.W.keepIn K (.ref f8) = true)
    (a9 : PySem.W.findIn K (.ref C4) "__init__" = some (some (.ref f9)))
    (t9 : PySem.W.typeIn K (.ref f9) = some (.type "function"))
    (l9 : K.lookup f9 = some ⟨oc9, od9, .func (PySem.W.fnOf "__init__" "InvalidRow.__init__" (defArgs s_InvalidRow__init) (defBody s_InvalidRow__init) (defScope s_InvalidRow__init) .none kV9 dc9 pm9 an9 cd9 ct9), sl9⟩)
    (c9 : PySem.W.codeIn K cd9 "InvalidRow.__init__" = true)
    (k9 : PySem.W.keepIn K (.ref f9) = true)
    (a10 : PySem.W.findIn K (.ref C5) "__init__" = some (some (.ref f10)))
    (t10 : PySem.W.typeIn K (.ref f10) = some (.type "function"))
    (l10 : K.lookup f10 = some ⟨oc10, od10, .func (PySem.W.fnOf "__init__" "Undefined.__init__" (defArgs s_Undefined__init) (defBody s_Undefined__init) (defScope s_Undefined__init) .none kV10 dc10 pm10 an10 cd10 ct10), sl10⟩)
    (c10 : PySem.W.codeIn K cd10 "Undefined.__init__" = true)
    (k10 : PySem.W.keepIn K (.ref f10) = true)
    (a11 : PySem.W.nsIn K mainGlobals "common_divisor" = some (some (.ref f11)))
    (l11 : K.lookup f11 = some ⟨oc11, od11, .func (PySem.W.fnOf "common_divisor" "common_divisor" (defArgs s_common_divisor) (defBody s_common_divisor) (defScope s_common_divisor) .none kV11 dc11 pm11 an11 cd11 ct11), sl11⟩)
    (c11 : PySem.W.codeIn K cd11 "common_divisor" = true)
    (k11 : PySem.W.keepIn K (.ref f11) = true)
    (a12 : PySem.W.nsIn K mainGlobals "common_multiple" = some (some (.ref f12)))
    (l12 : K.lookup f12 = some ⟨oc12, od12, .func (PySem.W.fnOf "common_multiple" "common_multiple" (defArgs s_common_multiple) (defBody s_common_multiple) (defScope s_common_multiple) .none kV12 dc12 pm12 an12 cd12 ct12), sl12⟩)
    (c12 : PySem.W.codeIn K cd12 "common_multiple" = true)
    (k12 : PySem.W.keepIn K (.ref f12) = true)
    (a13 : PySem.W.nsIn K mainGlobals "is_share" = some (some (.ref f13)))
    (l13 : K.lookup f13 = some ⟨oc13, od13, .func (PySem.W.fnOf "is_share" "is_share" (defArgs s_is_share) (defBody s_is_share) (defScope s_is_share) .none kV13 dc13 pm13 an13 cd13 ct13), sl13⟩)
    (c13 : PySem.W.codeIn K cd13 "is_share" = true)
    (k13 : PySem.W.keepIn K (.ref f13) = true)
    (a14 : PySem.W.nsIn K mainGlobals "is_amount" = some (some (.ref f14)))
    (l14 : K.lookup f14 = some ⟨oc14, od14, .func (PySem.W.fnOf "is_amount" "is_amount" (defArgs s_is_amount) (defBody s_is_amount) (defScope s_is_amount) .none kV14 dc14 pm14 an14 cd14 ct14), sl14⟩)
    (c14 : PySem.W.codeIn K cd14 "is_amount" = true)
    (k14 : PySem.W.keepIn K (.ref f14) = true)
    (a15 : PySem.W.nsIn K mainGlobals "as_share" = some (some (.ref f15)))
    (l15 : K.lookup f15 = some ⟨oc15, od15, .func (PySem.W.fnOf "as_share" "as_share" (defArgs s_as_share) (defBody s_as_share) (defScope s_as_share) .none kV15 dc15 pm15 an15 cd15 ct15), sl15⟩)
    (c15 : PySem.W.codeIn K cd15 "as_share" = true)
    (k15 : PySem.W.keepIn K (.ref f15) = true)
    (a16 : PySem.W.nsIn K mainGlobals "reduced_pair" = some (some (.ref f16)))
    (l16 : K.lookup f16 = some ⟨oc16, od16, .func (PySem.W.fnOf "reduced_pair" "reduced_pair" (defArgs s_reduced_pair) (defBody s_reduced_pair) (defScope s_reduced_pair) .none kV16 dc16 pm16 an16 cd16 ct16), sl16⟩)
    (c16 : PySem.W.codeIn K cd16 "reduced_pair" = true)
    (k16 : PySem.W.keepIn K (.ref f16) = true)
    (a17 : PySem.W.nsIn K mainGlobals "less" = some (some (.ref f17)))
    (l17 : K.lookup f17 = some ⟨oc17, od17, .func (PySem.W.fnOf "less" "less" (defArgs s_less) (defBody s_less) (defScope s_less) .none kV17 dc17 pm17 an17 cd17 ct17), sl17⟩)
    (c17 : PySem.W.codeIn K cd17 "less" = true)
    (k17 : PySem.W.keepIn K (.ref f17) = true)
    (a18 : PySem.W.nsIn K mainGlobals "over" = some (some (.ref f18)))
    (l18 : K.lookup f18 = some ⟨oc18, od18, .func (PySem.W.fnOf "over" "over" (defArgs s_over) (defBody s_over) (defScope s_over) .none kV18 dc18 pm18 an18 cd18 ct18), sl18⟩)
    (c18 : PySem.W.codeIn K cd18 "over" = true)
    (k18 : PySem.W.keepIn K (.ref f18) = true)
    (a19 : PySem.W.nsIn K mainGlobals "common_bottom" = some (some (.ref f19)))
    (l19 : K.lookup f19 = some ⟨oc19, od19, .func (PySem.W.fnOf "common_bottom" "common_bottom" (defArgs s_common_bottom) (defBody s_common_bottom) (defScope s_common_bottom) .none kV19 dc19 pm19 an19 cd19 ct19), sl19⟩)
    (c19 : PySem.W.codeIn K cd19 "common_bottom" = true)
    (k19 : PySem.W.keepIn K (.ref f19) = true)
    (a20 : PySem.W.nsIn K mainGlobals "scaled_to" = some (some (.ref f20)))
    (l20 : K.lookup f20 = some ⟨oc20, od20, .func (PySem.W.fnOf "scaled_to" "scaled_to" (defArgs s_scaled_to) (defBody s_scaled_to) (defScope s_scaled_to) .none kV20 dc20 pm20 an20 cd20 ct20), sl20⟩)
    (c20 : PySem.W.codeIn K cd20 "scaled_to" = true)
    (k20 : PySem.W.keepIn K (.ref f20) = true)
    (a21 : PySem.W.nsIn K mainGlobals "whole_parts" = some (some (.ref f21)))
    (l21 : K.lookup f21 = some ⟨oc21, od21, .func (PySem.W.fnOf "whole_parts" "whole_parts" (defArgs s_whole_parts) (defBody s_whole_parts) (defScope s_whole_parts) .none kV21 dc21 pm21 an21 cd21 ct21), sl21⟩)
    (c21 : PySem.W.codeIn K cd21 "whole_parts" = true)
    (k21 : PySem.W.keepIn K (.ref f21) = true)
    (a22 : PySem.W.nsIn K mainGlobals "poly_from" = some (some (.ref f22)))
    (l22 : K.lookup f22 = some ⟨oc22, od22, .func (PySem.W.fnOf "poly_from" "poly_from" (defArgs s_poly_from) (defBody s_poly_from) (defScope s_poly_from) .none kV22 dc22 pm22 an22 cd22 ct22), sl22⟩)
    (c22 : PySem.W.codeIn K cd22 "poly_from" = true)
    (k22 : PySem.W.keepIn K (.ref f22) = true)
    (a23 : PySem.W.nsIn K mainGlobals "combined_polys" = some (some (.ref f23)))
    (l23 : K.lookup f23 = some ⟨oc23, od23, .func (PySem.W.fnOf "combined_polys" "combined_polys" (defArgs s_combined_polys) (defBody s_combined_polys) (defScope s_combined_polys) .none kV23 dc23 pm23 an23 cd23 ct23), sl23⟩)
    (c23 : PySem.W.codeIn K cd23 "combined_polys" = true)
    (k23 : PySem.W.keepIn K (.ref f23) = true)
    (a24 : PySem.W.nsIn K mainGlobals "multiplied_rows" = some (some (.ref f24)))
    (l24 : K.lookup f24 = some ⟨oc24, od24, .func (PySem.W.fnOf "multiplied_rows" "multiplied_rows" (defArgs s_multiplied_rows) (defBody s_multiplied_rows) (defScope s_multiplied_rows) .none kV24 dc24 pm24 an24 cd24 ct24), sl24⟩)
    (c24 : PySem.W.codeIn K cd24 "multiplied_rows" = true)
    (k24 : PySem.W.keepIn K (.ref f24) = true)
    (a25 : PySem.W.nsIn K mainGlobals "multiplied_polys" = some (some (.ref f25)))
    (l25 : K.lookup f25 = some ⟨oc25, od25, .func (PySem.W.fnOf "multiplied_polys" "multiplied_polys" (defArgs s_multiplied_polys) (defBody s_multiplied_polys) (defScope s_multiplied_polys) .none kV25 dc25 pm25 an25 cd25 ct25), sl25⟩)
    (c25 : PySem.W.codeIn K cd25 "multiplied_polys" = true)
    (k25 : PySem.W.keepIn K (.ref f25) = true)
    (a26 : PySem.W.nsIn K mainGlobals "value_of_rows" = some (some (.ref f26)))
    (l26 : K.lookup f26 = some ⟨oc26, od26, .func (PySem.W.fnOf "value_of_rows" "value_of_rows" (defArgs s_value_of_rows) (defBody s_value_of_rows) (defScope s_value_of_rows) .none kV26 dc26 pm26 an26 cd26 ct26), sl26⟩)
    (c26 : PySem.W.codeIn K cd26 "value_of_rows" = true)
    (k26 : PySem.W.keepIn K (.ref f26) = true)
    (a27 : PySem.W.nsIn K mainGlobals "value_at" = some (some (.ref f27)))
    (l27 : K.lookup f27 = some ⟨oc27, od27, .func (PySem.W.fnOf "value_at" "value_at" (defArgs s_value_at) (defBody s_value_at) (defScope s_value_at) .none kV27 dc27 pm27 an27 cd27 ct27), sl27⟩)
    (c27 : PySem.W.codeIn K cd27 "value_at" = true)
    (k27 : PySem.W.keepIn K (.ref f27) = true)
    (a28 : PySem.W.nsIn K mainGlobals "poly_less" = some (some (.ref f28)))
    (l28 : K.lookup f28 = some ⟨oc28, od28, .func (PySem.W.fnOf "poly_less" "poly_less" (defArgs s_poly_less) (defBody s_poly_less) (defScope s_poly_less) .none kV28 dc28 pm28 an28 cd28 ct28), sl28⟩)
    (c28 : PySem.W.codeIn K cd28 "poly_less" = true)
    (k28 : PySem.W.keepIn K (.ref f28) = true)
    (a29 : PySem.W.nsIn K mainGlobals "poly_times" = some (some (.ref f29)))
    (l29 : K.lookup f29 = some ⟨oc29, od29, .func (PySem.W.fnOf "poly_times" "poly_times" (defArgs s_poly_times) (defBody s_poly_times) (defScope s_poly_times) .none kV29 dc29 pm29 an29 cd29 ct29), sl29⟩)
    (c29 : PySem.W.codeIn K cd29 "poly_times" = true)
    (k29 : PySem.W.keepIn K (.ref f29) = true)
    (a30 : PySem.W.nsIn K mainGlobals "poly_of" = some (some (.ref f30)))
    (l30 : K.lookup f30 = some ⟨oc30, od30, .func (PySem.W.fnOf "poly_of" "poly_of" (defArgs s_poly_of) (defBody s_poly_of) (defScope s_poly_of) .none kV30 dc30 pm30 an30 cd30 ct30), sl30⟩)
    (c30 : PySem.W.codeIn K cd30 "poly_of" = true)
    (k30 : PySem.W.keepIn K (.ref f30) = true)
    (a31 : PySem.W.nsIn K mainGlobals "sum_of_products" = some (some (.ref f31)))
    (l31 : K.lookup f31 = some ⟨oc31, od31, .func (PySem.W.fnOf "sum_of_products" "sum_of_products" (defArgs s_sum_of_products) (defBody s_sum_of_products) (defScope s_sum_of_products) .none kV31 dc31 pm31 an31 cd31 ct31), sl31⟩)
    (c31 : PySem.W.codeIn K cd31 "sum_of_products" = true)
    (k31 : PySem.W.keepIn K (.ref f31) = true)
    (a32 : PySem.W.nsIn K mainGlobals "window_back" = some (some (.ref f32)))
    (l32 : K.lookup f32 = some ⟨oc32, od32, .func (PySem.W.fnOf "window_back" "window_back" (defArgs s_window_back) (defBody s_window_back) (defScope s_window_back) .none kV32 dc32 pm32 an32 cd32 ct32), sl32⟩)
    (c32 : PySem.W.codeIn K cd32 "window_back" = true)
    (k32 : PySem.W.keepIn K (.ref f32) = true)
    (a33 : PySem.W.nsIn K mainGlobals "terms_back" = some (some (.ref f33)))
    (l33 : K.lookup f33 = some ⟨oc33, od33, .func (PySem.W.fnOf "terms_back" "terms_back" (defArgs s_terms_back) (defBody s_terms_back) (defScope s_terms_back) .none kV33 dc33 pm33 an33 cd33 ct33), sl33⟩)
    (c33 : PySem.W.codeIn K cd33 "terms_back" = true)
    (k33 : PySem.W.keepIn K (.ref f33) = true)
    (a34 : PySem.W.nsIn K mainGlobals "no_shift" = some (some (.ref f34)))
    (l34 : K.lookup f34 = some ⟨oc34, od34, .func (PySem.W.fnOf "no_shift" "no_shift" (defArgs s_no_shift) (defBody s_no_shift) (defScope s_no_shift) .none kV34 dc34 pm34 an34 cd34 ct34), sl34⟩)
    (c34 : PySem.W.codeIn K cd34 "no_shift" = true)
    (k34 : PySem.W.keepIn K (.ref f34) = true)
    (a35 : PySem.W.nsIn K mainGlobals "shift_forward" = some (some (.ref f35)))
    (l35 : K.lookup f35 = some ⟨oc35, od35, .func (PySem.W.fnOf "shift_forward" "shift_forward" (defArgs s_shift_forward) (defBody s_shift_forward) (defScope s_shift_forward) .none kV35 dc35 pm35 an35 cd35 ct35), sl35⟩)
    (c35 : PySem.W.codeIn K cd35 "shift_forward" = true)
    (k35 : PySem.W.keepIn K (.ref f35) = true)
    (a36 : PySem.W.nsIn K mainGlobals "shift_back" = some (some (.ref f36)))
    (l36 : K.lookup f36 = some ⟨oc36, od36, .func (PySem.W.fnOf "shift_back" "shift_back" (defArgs s_shift_back) (defBody s_shift_back) (defScope s_shift_back) .none kV36 dc36 pm36 an36 cd36 ct36), sl36⟩)
    (c36 : PySem.W.codeIn K cd36 "shift_back" = true)
    (k36 : PySem.W.keepIn K (.ref f36) = true)
    (a37 : PySem.W.nsIn K mainGlobals "shift_behind" = some (some (.ref f37)))
    (l37 : K.lookup f37 = some ⟨oc37, od37, .func (PySem.W.fnOf "shift_behind" "shift_behind" (defArgs s_shift_behind) (defBody s_shift_behind) (defScope s_shift_behind) .none kV37 dc37 pm37 an37 cd37 ct37), sl37⟩)
    (c37 : PySem.W.codeIn K cd37 "shift_behind" = true)
    (k37 : PySem.W.keepIn K (.ref f37) = true)
    (a38 : PySem.W.nsIn K mainGlobals "shift_by" = some (some (.ref f38)))
    (l38 : K.lookup f38 = some ⟨oc38, od38, .func (PySem.W.fnOf "shift_by" "shift_by" (defArgs s_shift_by) (defBody s_shift_by) (defScope s_shift_by) .none kV38 dc38 pm38 an38 cd38 ct38), sl38⟩)
    (c38 : PySem.W.codeIn K cd38 "shift_by" = true)
    (k38 : PySem.W.keepIn K (.ref f38) = true)
    (a39 : PySem.W.nsIn K mainGlobals "turned_factors" = some (some (.ref f39)))
    (l39 : K.lookup f39 = some ⟨oc39, od39, .func (PySem.W.fnOf "turned_factors" "turned_factors" (defArgs s_turned_factors) (defBody s_turned_factors) (defScope s_turned_factors) .none kV39 dc39 pm39 an39 cd39 ct39), sl39⟩)
    (c39 : PySem.W.codeIn K cd39 "turned_factors" = true)
    (k39 : PySem.W.keepIn K (.ref f39) = true)
    (a40 : PySem.W.nsIn K mainGlobals "bottom_row" = some (some (.ref f40)))
    (l40 : K.lookup f40 = some ⟨oc40, od40, .func (PySem.W.fnOf "bottom_row" "bottom_row" (defArgs s_bottom_row) (defBody s_bottom_row) (defScope s_bottom_row) .none kV40 dc40 pm40 an40 cd40 ct40), sl40⟩)
    (c40 : PySem.W.codeIn K cd40 "bottom_row" = true)
    (k40 : PySem.W.keepIn K (.ref f40) = true)
    (a41 : PySem.W.nsIn K mainGlobals "product_below" = some (some (.ref f41)))
    (l41 : K.lookup f41 = some ⟨oc41, od41, .func (PySem.W.fnOf "product_below" "product_below" (defArgs s_product_below) (defBody s_product_below) (defScope s_product_below) .none kV41 dc41 pm41 an41 cd41 ct41), sl41⟩)
    (c41 : PySem.W.codeIn K cd41 "product_below" = true)
    (k41 : PySem.W.keepIn K (.ref f41) = true)
    (a42 : PySem.W.findIn K (.ref C6) "__init__" = some (some (.ref f42)))
    (i42 : PySem.W.isFn K (.ref f42) = true)
    (l42 : K.lookup f42 = some ⟨oc42, od42, .func (PySem.W.fnOf "__init__" "Row.__init__" (defArgs s_Row__init) (defBody s_Row__init) (defScope s_Row__init) .none kV42 dc42 pm42 an42 cd42 ct42), sl42⟩)
    (c42 : PySem.W.codeIn K cd42 "Row.__init__" = true)
    (k42 : PySem.W.keepIn K (.ref f42) = true)
    (a43 : PySem.W.findIn K (.ref C6) "term" = some (some (.ref f43)))
    (i43 : PySem.W.isFn K (.ref f43) = true)
    (l43 : K.lookup f43 = some ⟨oc43, od43, .func (PySem.W.fnOf "term" "Row.term" (defArgs s_Row__term) (defBody s_Row__term) (defScope s_Row__term) .none kV43 dc43 pm43 an43 cd43 ct43), sl43⟩)
    (c43 : PySem.W.codeIn K cd43 "Row.term" = true)
    (k43 : PySem.W.keepIn K (.ref f43) = true)
    (a44 : PySem.W.findIn K (.ref C6) "moved" = some (some (.ref f44)))
    (i44 : PySem.W.isFn K (.ref f44) = true)
    (l44 : K.lookup f44 = some ⟨oc44, od44, .func (PySem.W.fnOf "moved" "Row.moved" (defArgs s_Row__moved) (defBody s_Row__moved) (defScope s_Row__moved) .none kV44 dc44 pm44 an44 cd44 ct44), sl44⟩)
    (c44 : PySem.W.codeIn K cd44 "Row.moved" = true)
    (k44 : PySem.W.keepIn K (.ref f44) = true)
    (a45 : PySem.W.findIn K (.ref C6) "turned" = some (some (.ref f45)))
    (i45 : PySem.W.isFn K (.ref f45) = true)
    (l45 : K.lookup f45 = some ⟨oc45, od45, .func (PySem.W.fnOf "turned" "Row.turned" (defArgs s_Row__turned) (defBody s_Row__turned) (defScope s_Row__turned) .none kV45 dc45 pm45 an45 cd45 ct45), sl45⟩)
    (c45 : PySem.W.codeIn K cd45 "Row.turned" = true)
    (k45 : PySem.W.keepIn K (.ref f45) = true)
    (a46 : PySem.W.nsIn K mainGlobals "need_integer" = some (some (.ref f46)))
    (l46 : K.lookup f46 = some ⟨oc46, od46, .func (PySem.W.fnOf "need_integer" "need_integer" (defArgs s_need_integer) (defBody s_need_integer) (defScope s_need_integer) .none kV46 dc46 pm46 an46 cd46 ct46), sl46⟩)
    (c46 : PySem.W.codeIn K cd46 "need_integer" = true)
    (k46 : PySem.W.keepIn K (.ref f46) = true)
    (a47 : PySem.W.nsIn K mainGlobals "fraction" = some (some (.ref f47)))
    (l47 : K.lookup f47 = some ⟨oc47, od47, .func (PySem.W.fnOf "fraction" "fraction" (defArgs s_fraction) (defBody s_fraction) (defScope s_fraction) .none kV47 dc47 pm47 an47 cd47 ct47), sl47⟩)
    (c47 : PySem.W.codeIn K cd47 "fraction" = true)
    (k47 : PySem.W.keepIn K (.ref f47) = true)
    (a48 : PySem.W.nsIn K mainGlobals "back_fraction" = some (some (.ref f48)))
    (l48 : K.lookup f48 = some ⟨oc48, od48, .func (PySem.W.fnOf "back_fraction" "back_fraction" (defArgs s_back_fraction) (defBody s_back_fraction) (defScope s_back_fraction) .none kV48 dc48 pm48 an48 cd48 ct48), sl48⟩)
    (c48 : PySem.W.codeIn K cd48 "back_fraction" = true)
    (k48 : PySem.W.keepIn K (.ref f48) = true)
    (a49 : PySem.W.nsIn K mainGlobals "_law_open" = some (some (.ref f49)))
    (l49 : K.lookup f49 = some ⟨oc49, od49, .func (PySem.W.fnOf "_law_open" "_law_open" (defArgs s__law_open) (defBody s__law_open) (defScope s__law_open) .none kV49 dc49 pm49 an49 cd49 ct49), sl49⟩)
    (c49 : PySem.W.codeIn K cd49 "_law_open" = true)
    (k49 : PySem.W.keepIn K (.ref f49) = true)
    (a50 : PySem.W.nsIn K mainGlobals "_law_draw" = some (some (.ref f50)))
    (l50 : K.lookup f50 = some ⟨oc50, od50, .func (PySem.W.fnOf "_law_draw" "_law_draw" (defArgs s__law_draw) (defBody s__law_draw) (defScope s__law_draw) .none kV50 dc50 pm50 an50 cd50 ct50), sl50⟩)
    (c50 : PySem.W.codeIn K cd50 "_law_draw" = true)
    (k50 : PySem.W.keepIn K (.ref f50) = true)
    (a51 : PySem.W.nsIn K mainGlobals "_law_pick" = some (some (.ref f51)))
    (l51 : K.lookup f51 = some ⟨oc51, od51, .func (PySem.W.fnOf "_law_pick" "_law_pick" (defArgs s__law_pick) (defBody s__law_pick) (defScope s__law_pick) .none kV51 dc51 pm51 an51 cd51 ct51), sl51⟩)
    (c51 : PySem.W.codeIn K cd51 "_law_pick" = true)
    (k51 : PySem.W.keepIn K (.ref f51) = true)
    (a52 : PySem.W.nsIn K mainGlobals "_law_same" = some (some (.ref f52)))
    (l52 : K.lookup f52 = some ⟨oc52, od52, .func (PySem.W.fnOf "_law_same" "_law_same" (defArgs s__law_same) (defBody s__law_same) (defScope s__law_same) .none kV52 dc52 pm52 an52 cd52 ct52), sl52⟩)
    (c52 : PySem.W.codeIn K cd52 "_law_same" = true)
    (k52 : PySem.W.keepIn K (.ref f52) = true)
    (a53 : PySem.W.nsIn K mainGlobals "_law_share" = some (some (.ref f53)))
    (l53 : K.lookup f53 = some ⟨oc53, od53, .func (PySem.W.fnOf "_law_share" "_law_share" (defArgs s__law_share) (defBody s__law_share) (defScope s__law_share) .none kV53 dc53 pm53 an53 cd53 ct53), sl53⟩)
    (c53 : PySem.W.codeIn K cd53 "_law_share" = true)
    (k53 : PySem.W.keepIn K (.ref f53) = true)
    (a54 : PySem.W.nsIn K mainGlobals "_law_worth" = some (some (.ref f54)))
    (l54 : K.lookup f54 = some ⟨oc54, od54, .func (PySem.W.fnOf "_law_worth" "_law_worth" (defArgs s__law_worth) (defBody s__law_worth) (defScope s__law_worth) .none kV54 dc54 pm54 an54 cd54 ct54), sl54⟩)
    (c54 : PySem.W.codeIn K cd54 "_law_worth" = true)
    (k54 : PySem.W.keepIn K (.ref f54) = true)
    (a55 : PySem.W.nsIn K mainGlobals "_law_row" = some (some (.ref f55)))
    (l55 : K.lookup f55 = some ⟨oc55, od55, .func (PySem.W.fnOf "_law_row" "_law_row" (defArgs s__law_row) (defBody s__law_row) (defScope s__law_row) .none kV55 dc55 pm55 an55 cd55 ct55), sl55⟩)
    (c55 : PySem.W.codeIn K cd55 "_law_row" = true)
    (k55 : PySem.W.keepIn K (.ref f55) = true)
    (a56 : PySem.W.nsIn K mainGlobals "_law_window" = some (some (.ref f56)))
    (l56 : K.lookup f56 = some ⟨oc56, od56, .func (PySem.W.fnOf "_law_window" "_law_window" (defArgs s__law_window) (defBody s__law_window) (defScope s__law_window) .none kV56 dc56 pm56 an56 cd56 ct56), sl56⟩)
    (c56 : PySem.W.codeIn K cd56 "_law_window" = true)
    (k56 : PySem.W.keepIn K (.ref f56) = true)
    (a57 : PySem.W.nsIn K mainGlobals "_law_turned" = some (some (.ref f57)))
    (l57 : K.lookup f57 = some ⟨oc57, od57, .func (PySem.W.fnOf "_law_turned" "_law_turned" (defArgs s__law_turned) (defBody s__law_turned) (defScope s__law_turned) .none kV57 dc57 pm57 an57 cd57 ct57), sl57⟩)
    (c57 : PySem.W.codeIn K cd57 "_law_turned" = true)
    (k57 : PySem.W.keepIn K (.ref f57) = true)
    (a58 : PySem.W.nsIn K mainGlobals "_law_bottom" = some (some (.ref f58)))
    (l58 : K.lookup f58 = some ⟨oc58, od58, .func (PySem.W.fnOf "_law_bottom" "_law_bottom" (defArgs s__law_bottom) (defBody s__law_bottom) (defScope s__law_bottom) .none kV58 dc58 pm58 an58 cd58 ct58), sl58⟩)
    (c58 : PySem.W.codeIn K cd58 "_law_bottom" = true)
    (k58 : PySem.W.keepIn K (.ref f58) = true)
    (a59 : PySem.W.nsIn K mainGlobals "_law_top" = some (some (.ref f59)))
    (l59 : K.lookup f59 = some ⟨oc59, od59, .func (PySem.W.fnOf "_law_top" "_law_top" (defArgs s__law_top) (defBody s__law_top) (defScope s__law_top) .none kV59 dc59 pm59 an59 cd59 ct59), sl59⟩)
    (c59 : PySem.W.codeIn K cd59 "_law_top" = true)
    (k59 : PySem.W.keepIn K (.ref f59) = true)
    (a60 : PySem.W.nsIn K mainGlobals "_law_poly" = some (some (.ref f60)))
    (l60 : K.lookup f60 = some ⟨oc60, od60, .func (PySem.W.fnOf "_law_poly" "_law_poly" (defArgs s__law_poly) (defBody s__law_poly) (defScope s__law_poly) .none kV60 dc60 pm60 an60 cd60 ct60), sl60⟩)
    (c60 : PySem.W.codeIn K cd60 "_law_poly" = true)
    (k60 : PySem.W.keepIn K (.ref f60) = true)
    (a61 : PySem.W.nsIn K mainGlobals "_law_at" = some (some (.ref f61)))
    (l61 : K.lookup f61 = some ⟨oc61, od61, .func (PySem.W.fnOf "_law_at" "_law_at" (defArgs s__law_at) (defBody s__law_at) (defScope s__law_at) .none kV61 dc61 pm61 an61 cd61 ct61), sl61⟩)
    (c61 : PySem.W.codeIn K cd61 "_law_at" = true)
    (k61 : PySem.W.keepIn K (.ref f61) = true)
    (a62 : PySem.W.nsIn K mainGlobals "_law_made" = some (some (.ref f62)))
    (l62 : K.lookup f62 = some ⟨oc62, od62, .func (PySem.W.fnOf "_law_made" "_law_made" (defArgs s__law_made) (defBody s__law_made) (defScope s__law_made) .none kV62 dc62 pm62 an62 cd62 ct62), sl62⟩)
    (c62 : PySem.W.codeIn K cd62 "_law_made" = true)
    (k62 : PySem.W.keepIn K (.ref f62) = true)
    (a63 : PySem.W.nsIn K mainGlobals "_law_is" = some (some (.ref f63)))
    (l63 : K.lookup f63 = some ⟨oc63, od63, .func (PySem.W.fnOf "_law_is" "_law_is" (defArgs s__law_is) (defBody s__law_is) (defScope s__law_is) .none kV63 dc63 pm63 an63 cd63 ct63), sl63⟩)
    (c63 : PySem.W.codeIn K cd63 "_law_is" = true)
    (k63 : PySem.W.keepIn K (.ref f63) = true)
    (a64 : PySem.W.nsIn K mainGlobals "_law_wrong_row" = some (some (.ref f64)))
    (l64 : K.lookup f64 = some ⟨oc64, od64, .func (PySem.W.fnOf "_law_wrong_row" "_law_wrong_row" (defArgs s__law_wrong_row) (defBody s__law_wrong_row) (defScope s__law_wrong_row) .none kV64 dc64 pm64 an64 cd64 ct64), sl64⟩)
    (c64 : PySem.W.codeIn K cd64 "_law_wrong_row" = true)
    (k64 : PySem.W.keepIn K (.ref f64) = true)
    (a65 : PySem.W.nsIn K mainGlobals "_law_row_refused" = some (some (.ref f65)))
    (l65 : K.lookup f65 = some ⟨oc65, od65, .func (PySem.W.fnOf "_law_row_refused" "_law_row_refused" (defArgs s__law_row_refused) (defBody s__law_row_refused) (defScope s__law_row_refused) .none kV65 dc65 pm65 an65 cd65 ct65), sl65⟩)
    (c65 : PySem.W.codeIn K cd65 "_law_row_refused" = true)
    (k65 : PySem.W.keepIn K (.ref f65) = true)
    (a66 : PySem.W.nsIn K mainGlobals "_law_number_refused" = some (some (.ref f66)))
    (l66 : K.lookup f66 = some ⟨oc66, od66, .func (PySem.W.fnOf "_law_number_refused" "_law_number_refused" (defArgs s__law_number_refused) (defBody s__law_number_refused) (defScope s__law_number_refused) .none kV66 dc66 pm66 an66 cd66 ct66), sl66⟩)
    (c66 : PySem.W.codeIn K cd66 "_law_number_refused" = true)
    (k66 : PySem.W.keepIn K (.ref f66) = true)
    (a67 : PySem.W.nsIn K mainGlobals "_law_terms_right" = some (some (.ref f67)))
    (l67 : K.lookup f67 = some ⟨oc67, od67, .func (PySem.W.fnOf "_law_terms_right" "_law_terms_right" (defArgs s__law_terms_right) (defBody s__law_terms_right) (defScope s__law_terms_right) .none kV67 dc67 pm67 an67 cd67 ct67), sl67⟩)
    (c67 : PySem.W.codeIn K cd67 "_law_terms_right" = true)
    (k67 : PySem.W.keepIn K (.ref f67) = true)
    (a68 : PySem.W.nsIn K mainGlobals "_law_dues" = some (some (.ref f68)))
    (l68 : K.lookup f68 = some ⟨oc68, od68, .func (PySem.W.fnOf "_law_dues" "_law_dues" (defArgs s__law_dues) (defBody s__law_dues) (defScope s__law_dues) .none kV68 dc68 pm68 an68 cd68 ct68), sl68⟩)
    (c68 : PySem.W.codeIn K cd68 "_law_dues" = true)
    (k68 : PySem.W.keepIn K (.ref f68) = true)
    (a69 : PySem.W.nsIn K mainGlobals "_law_fractions_right" = some (some (.ref f69)))
    (l69 : K.lookup f69 = some ⟨oc69, od69, .func (PySem.W.fnOf "_law_fractions_right" "_law_fractions_right" (defArgs s__law_fractions_right) (defBody s__law_fractions_right) (defScope s__law_fractions_right) .none kV69 dc69 pm69 an69 cd69 ct69), sl69⟩)
    (c69 : PySem.W.codeIn K cd69 "_law_fractions_right" = true)
    (k69 : PySem.W.keepIn K (.ref f69) = true)
    (a70 : PySem.W.nsIn K mainGlobals "_law_all" = some (some (.ref f70)))
    (l70 : K.lookup f70 = some ⟨oc70, od70, .func (PySem.W.fnOf "_law_all" "_law_all" (defArgs s__law_all) (defBody s__law_all) (defScope s__law_all) .none kV70 dc70 pm70 an70 cd70 ct70), sl70⟩)
    (c70 : PySem.W.codeIn K cd70 "_law_all" = true)
    (k70 : PySem.W.keepIn K (.ref f70) = true)
    (a71 : PySem.W.nsIn K mainGlobals "law" = some (some (.ref f71)))
    (l71 : K.lookup f71 = some ⟨oc71, od71, .func (PySem.W.fnOf "law" "law" (defArgs s_law) (defBody s_law) (defScope s_law) .none kV71 dc71 pm71 an71 cd71 ct71), sl71⟩)
    (c71 : PySem.W.codeIn K cd71 "law" = true)
    (k71 : PySem.W.keepIn K (.ref f71) = true)
    (xL0 : K.lookup C0 = some (excClassObj nm0 q0 C0 N0 bs0 [.type "ValueError", .type "Exception", .type "BaseException", .type "object"] true sn0 sub0 ab0 col0 dd0 ma0 mb0 mc0 me0 mf0 "ValueError.__new__"))
    (sa0 : PySem.W.findIn K (.ref C0) "__setattr__" = some (some (.builtin "object.__setattr__")))
    (ga0 : PySem.W.findIn K (.ref C0) "__getattribute__" = some (some (.builtin "BaseException.__getattribute__")))
    (gg0 : PySem.W.findIn K (.ref C0) "__getattr__" = some none)
    (kC0 : PySem.W.keepIn K (.ref C0) = true)
    (eC0 : PySem.W.subIn K (.ref C0) (.type "BaseException") = some true)
    (tC0 : PySem.W.typeIn K (.ref C0) = some (.type "type"))
    (hC0 : PySem.W.hasDictIn K C0 = true)
    (sC0 : PySem.W.subIn K (.ref C0) (.ref C0) = some true)
    (xL1 : K.lookup C1 = some (excClassObj nm1 q1 C1 N1 bs1 [.ref C0, .type "ValueError", .type "Exception", .type "BaseException", .type "object"] true sn1 sub1 ab1 col1 dd1 ma1 mb1 mc1 me1 mf1 "ValueError.__new__"))
    (sa1 : PySem.W.findIn K (.ref C1) "__setattr__" = some (some (.builtin "object.__setattr__")))
    (ga1 : PySem.W.findIn K (.ref C1) "__getattribute__" = some (some (.builtin "BaseException.__getattribute__")))
    (gg1 : PySem.W.findIn K (.ref C1) "__getattr__" = some none)
    (kC1 : PySem.W.keepIn K (.ref C1) = true)
    (eC1 : PySem.W.subIn K (.ref C1) (.type "BaseException") = some true)
    (tC1 : PySem.W.typeIn K (.ref C1) = some (.type "type"))
    (hC1 : PySem.W.hasDictIn K C1 = true)
    (sC1 : PySem.W.subIn K (.ref C1) (.ref C1) = some true)
    (sC1_0 : PySem.W.subIn K (.ref C1) (.ref C0) = some true)
    (kx1_InvalidRow : PySem.W.kitOne K (.ref C1) (.ref C4) = some false)
    (kx1_InvalidShare : PySem.W.kitOne K (.ref C1) (.ref C2) = some false)
    (kx1_InvalidNumber : PySem.W.kitOne K (.ref C1) (.ref C1) = some true)
    (ha1 : PySem.W.findIn K (.ref C1) "__class__" = some (some (.builtin "object.__class__")))
    (hn1 : PySem.W.specialIn K (.builtin "object.__class__") "__get__" = some (some (.builtin "getset_descriptor.__get__")))
    (ht1 : PySem.W.takesIn K (.builtin "object.__class__") = some true)
    (hm1 : PySem.W.mroIn K C1 (.type "object") = some true)
    (no1_value : PySem.W.findIn K (.ref C1) "value" = some none)
    (xL2 : K.lookup C2 = some (excClassObj nm2 q2 C2 N2 bs2 [.ref C0, .type "ValueError", .type "Exception", .type "BaseException", .type "object"] true sn2 sub2 ab2 col2 dd2 ma2 mb2 mc2 me2 mf2 "ValueError.__new__"))
    (sa2 : PySem.W.findIn K (.ref C2) "__setattr__" = some (some (.builtin "object.__setattr__")))
    (ga2 : PySem.W.findIn K (.ref C2) "__getattribute__" = some (some (.builtin "BaseException.__getattribute__")))
    (gg2 : PySem.W.findIn K (.ref C2) "__getattr__" = some none)
    (kC2 : PySem.W.keepIn K (.ref C2) = true)
    (eC2 : PySem.W.subIn K (.ref C2) (.type "BaseException") = some true)
    (tC2 : PySem.W.typeIn K (.ref C2) = some (.type "type"))
    (hC2 : PySem.W.hasDictIn K C2 = true)
    (sC2 : PySem.W.subIn K (.ref C2) (.ref C2) = some true)
    (sC2_0 : PySem.W.subIn K (.ref C2) (.ref C0) = some true)
    (no2_value : PySem.W.findIn K (.ref C2) "value" = some none)
    (xL3 : K.lookup C3 = some (excClassObj nm3 q3 C3 N3 bs3 [.ref C0, .type "ValueError", .type "Exception", .type "BaseException", .type "object"] true sn3 sub3 ab3 col3 dd3 ma3 mb3 mc3 me3 mf3 "ValueError.__new__"))
    (sa3 : PySem.W.findIn K (.ref C3) "__setattr__" = some (some (.builtin "object.__setattr__")))
    (ga3 : PySem.W.findIn K (.ref C3) "__getattribute__" = some (some (.builtin "BaseException.__getattribute__")))
    (gg3 : PySem.W.findIn K (.ref C3) "__getattr__" = some none)
    (kC3 : PySem.W.keepIn K (.ref C3) = true)
    (eC3 : PySem.W.subIn K (.ref C3) (.type "BaseException") = some true)
    (tC3 : PySem.W.typeIn K (.ref C3) = some (.type "type"))
    (hC3 : PySem.W.hasDictIn K C3 = true)
    (sC3 : PySem.W.subIn K (.ref C3) (.ref C3) = some true)
    (sC3_0 : PySem.W.subIn K (.ref C3) (.ref C0) = some true)
    (no3_value : PySem.W.findIn K (.ref C3) "value" = some none)
    (xL4 : K.lookup C4 = some (excClassObj nm4 q4 C4 N4 bs4 [.ref C0, .type "ValueError", .type "Exception", .type "BaseException", .type "object"] true sn4 sub4 ab4 col4 dd4 ma4 mb4 mc4 me4 mf4 "ValueError.__new__"))
    (sa4 : PySem.W.findIn K (.ref C4) "__setattr__" = some (some (.builtin "object.__setattr__")))
    (ga4 : PySem.W.findIn K (.ref C4) "__getattribute__" = some (some (.builtin "BaseException.__getattribute__")))
    (gg4 : PySem.W.findIn K (.ref C4) "__getattr__" = some none)
    (kC4 : PySem.W.keepIn K (.ref C4) = true)
    (eC4 : PySem.W.subIn K (.ref C4) (.type "BaseException") = some true)
    (tC4 : PySem.W.typeIn K (.ref C4) = some (.type "type"))
    (hC4 : PySem.W.hasDictIn K C4 = true)
    (sC4 : PySem.W.subIn K (.ref C4) (.ref C4) = some true)
    (sC4_0 : PySem.W.subIn K (.ref C4) (.ref C0) = some true)
    (kx4_InvalidNumber : PySem.W.kitOne K (.ref C4) (.ref C1) = some false)
    (kx4_InvalidShare : PySem.W.kitOne K (.ref C4) (.ref C2) = some false)
    (kx4_InvalidValues : PySem.W.kitOne K (.ref C4) (.ref C3) = some false)
    (kx4_InvalidRow : PySem.W.kitOne K (.ref C4) (.ref C4) = some true)
    (ha4 : PySem.W.findIn K (.ref C4) "__class__" = some (some (.builtin "object.__class__")))
    (hn4 : PySem.W.specialIn K (.builtin "object.__class__") "__get__" = some (some (.builtin "getset_descriptor.__get__")))
    (ht4 : PySem.W.takesIn K (.builtin "object.__class__") = some true)
    (hm4 : PySem.W.mroIn K C4 (.type "object") = some true)
    (no4_value : PySem.W.findIn K (.ref C4) "value" = some none)
    (xL5 : K.lookup C5 = some (excClassObj nm5 q5 C5 N5 bs5 [.ref C0, .type "ValueError", .type "Exception", .type "BaseException", .type "object"] true sn5 sub5 ab5 col5 dd5 ma5 mb5 mc5 me5 mf5 "ValueError.__new__"))
    (sa5 : PySem.W.findIn K (.ref C5) "__setattr__" = some (some (.builtin "object.__setattr__")))
    (ga5 : PySem.W.findIn K (.ref C5) "__getattribute__" = some (some (.builtin "BaseException.__getattribute__")))
    (gg5 : PySem.W.findIn K (.ref C5) "__getattr__" = some none)
    (kC5 : PySem.W.keepIn K (.ref C5) = true)
    (eC5 : PySem.W.subIn K (.ref C5) (.type "BaseException") = some true)
    (tC5 : PySem.W.typeIn K (.ref C5) = some (.type "type"))
    (hC5 : PySem.W.hasDictIn K C5 = true)
    (sC5 : PySem.W.subIn K (.ref C5) (.ref C5) = some true)
    (sC5_0 : PySem.W.subIn K (.ref C5) (.ref C0) = some true)
    (no5_what : PySem.W.findIn K (.ref C5) "what" = some none)
    (pg6 : PySem.W.plainGet K C6 Str.empty = true)
    (hd6 : PySem.W.hasDictIn K C6 = true)
    (po6 : PySem.W.plainOver K C6 = true)
    (sb6 : PySem.W.findIn K (.ref C6) "__setattr__" = some (some (.builtin "object.__setattr__")))
    (mk6 : PySem.W.makesIn K C6 = true)
    (kc6 : PySem.W.keepIn K (.ref C6) = true)
    (ha6 : PySem.W.findIn K (.ref C6) "__class__" = some (some (.builtin "object.__class__")))
    (hn6 : PySem.W.specialIn K (.builtin "object.__class__") "__get__" = some (some (.builtin "getset_descriptor.__get__")))
    (ht6 : PySem.W.takesIn K (.builtin "object.__class__") = some true)
    (hm6 : PySem.W.mroIn K C6 (.type "object") = some true)
    (kt6_int : PySem.W.kitOne K (.ref C6) (.type "int") = some false)
    (kt6_bool : PySem.W.kitOne K (.ref C6) (.type "bool") = some false)
    (kt6_tuple : PySem.W.kitOne K (.ref C6) (.type "tuple") = some false)
    (kt6_list : PySem.W.kitOne K (.ref C6) (.type "list") = some false)
    (kt6_str : PySem.W.kitOne K (.ref C6) (.type "str") = some false)
    (kx6_Row : PySem.W.kitOne K (.ref C6) (.ref C6) = some true)
    (no6_factors : PySem.W.findIn K (.ref C6) "factors" = some none)
    (no6_first : PySem.W.findIn K (.ref C6) "first" = some none)
    (aK0 : PySem.W.nsIn K mainGlobals "NOUGHT" = some (some (.ref K0)))
    (lK0 : K.lookup K0 = some ⟨.type "tuple", Kd0, .seq #[.int 0 tk0_0, .int 1 tk0_1] Kn0, Ks0⟩)
    (nb_abs : PySem.W.nsIn K mainGlobals "abs" = some none)
    (nb_len : PySem.W.nsIn K mainGlobals "len" = some none)
    (nb_range : PySem.W.nsIn K mainGlobals "range" = some none)
    (nb_int : PySem.W.nsIn K mainGlobals "int" = some none)
    (nb_str : PySem.W.nsIn K mainGlobals "str" = some none)
    (nb_isinstance : PySem.W.nsIn K mainGlobals "isinstance" = some none)
    (nb_tuple : PySem.W.nsIn K mainGlobals "tuple" = some none)
    (nb_list : PySem.W.nsIn K mainGlobals "list" = some none)
    (nb_sum : PySem.W.nsIn K mainGlobals "sum" = some none)
    (nb_min : PySem.W.nsIn K mainGlobals "min" = some none)
    (nb_max : PySem.W.nsIn K mainGlobals "max" = some none)
    (nb_all : PySem.W.nsIn K mainGlobals "all" = some none)
    (nb_enumerate : PySem.W.nsIn K mainGlobals "enumerate" = some none)
    (nb_zip : PySem.W.nsIn K mainGlobals "zip" = some none)
    (nb_reversed : PySem.W.nsIn K mainGlobals "reversed" = some none)
    (nb_bool : PySem.W.nsIn K mainGlobals "bool" = some none)
    (nb_ValueError : PySem.W.nsIn K mainGlobals "ValueError" = some none)
    : ∃ A : Ad, A.law = fa ∧ Txt K mg A := by
  have e := hfa.symm.trans (PySem.W.mg_of X G a71)
  cases e
  refine ⟨{ is_integer := f1, fd_is_integer := PySem.W.fnOf "is_integer" "is_integer" (defArgs s_is_integer) (defBody s_is_integer) (defScope s_is_integer) .none kV1 dc1 pm1 an1 cd1 ct1, is_sequence := f2, fd_is_sequence := PySem.W.fnOf "is_sequence" "is_sequence" (defArgs s_is_sequence) (defBody s_is_sequence) (defScope s_is_sequence) .none kV2 dc2 pm2 an2 cd2 ct2, is_pair := f3, fd_is_pair := PySem.W.fnOf "is_pair" "is_pair" (defArgs s_is_pair) (defBody s_is_pair) (defScope s_is_pair) .none kV3 dc3 pm3 an3 cd3 ct3, are_integers := f4, fd_are_integers := PySem.W.fnOf "are_integers" "are_integers" (defArgs s_are_integers) (defBody s_are_integers) (defScope s_are_integers) .none kV4 dc4 pm4 an4 cd4 ct4, frozen := f5, fd_frozen := PySem.W.fnOf "frozen" "frozen" (defArgs s_frozen) (defBody s_frozen) (defScope s_frozen) .none kV5 dc5 pm5 an5 cd5 ct5, InvalidNumber__init := f6, fd_InvalidNumber__init := PySem.W.fnOf "__init__" "InvalidNumber.__init__" (defArgs s_InvalidNumber__init) (defBody s_InvalidNumber__init) (defScope s_InvalidNumber__init) .none kV6 dc6 pm6 an6 cd6 ct6, InvalidShare__init := f7, fd_InvalidShare__init := PySem.W.fnOf "__init__" "InvalidShare.__init__" (defArgs s_InvalidShare__init) (defBody s_InvalidShare__init) (defScope s_InvalidShare__init) .none kV7 dc7 pm7 an7 cd7 ct7, InvalidValues__init := f8, fd_InvalidValues__init := PySem.W.fnOf "__init__" "InvalidValues.__init__" (defArgs s_InvalidValues__init) (defBody s_InvalidValues__init) (defScope s_InvalidValues__init) .none kV8 dc8 pm8 an8 cd8 ct8, InvalidRow__init := f9, fd_InvalidRow__init := PySem.W.fnOf "__init__" "InvalidRow.__init__" (defArgs s_InvalidRow__init) (defBody s_InvalidRow__init) (defScope s_InvalidRow__init) .none kV9 dc9 pm9 an9 cd9 ct9, Undefined__init := f10, fd_Undefined__init := PySem.W.fnOf "__init__" "Undefined.__init__" (defArgs s_Undefined__init) (defBody s_Undefined__init) (defScope s_Undefined__init) .none kV10 dc10 pm10 an10 cd10 ct10, common_divisor := f11, fd_common_divisor := PySem.W.fnOf "common_divisor" "common_divisor" (defArgs s_common_divisor) (defBody s_common_divisor) (defScope s_common_divisor) .none kV11 dc11 pm11 an11 cd11 ct11, common_multiple := f12, fd_common_multiple := PySem.W.fnOf "common_multiple" "common_multiple" (defArgs s_common_multiple) (defBody s_common_multiple) (defScope s_common_multiple) .none kV12 dc12 pm12 an12 cd12 ct12, is_share := f13, fd_is_share := PySem.W.fnOf "is_share" "is_share" (defArgs s_is_share) (defBody s_is_share) (defScope s_is_share) .none kV13 dc13 pm13 an13 cd13 ct13, is_amount := f14, fd_is_amount := PySem.W.fnOf "is_amount" "is_amount" (defArgs s_is_amount) (defBody s_is_amount) (defScope s_is_amount) .none kV14 dc14 pm14 an14 cd14 ct14, as_share := f15, fd_as_share := PySem.W.fnOf "as_share" "as_share" (defArgs s_as_share) (defBody s_as_share) (defScope s_as_share) .none kV15 dc15 pm15 an15 cd15 ct15, reduced_pair := f16, fd_reduced_pair := PySem.W.fnOf "reduced_pair" "reduced_pair" (defArgs s_reduced_pair) (defBody s_reduced_pair) (defScope s_reduced_pair) .none kV16 dc16 pm16 an16 cd16 ct16, less := f17, fd_less := PySem.W.fnOf "less" "less" (defArgs s_less) (defBody s_less) (defScope s_less) .none kV17 dc17 pm17 an17 cd17 ct17, over := f18, fd_over := PySem.W.fnOf "over" "over" (defArgs s_over) (defBody s_over) (defScope s_over) .none kV18 dc18 pm18 an18 cd18 ct18, common_bottom := f19, fd_common_bottom := PySem.W.fnOf "common_bottom" "common_bottom" (defArgs s_common_bottom) (defBody s_common_bottom) (defScope s_common_bottom) .none kV19 dc19 pm19 an19 cd19 ct19, scaled_to := f20, fd_scaled_to := PySem.W.fnOf "scaled_to" "scaled_to" (defArgs s_scaled_to) (defBody s_scaled_to) (defScope s_scaled_to) .none kV20 dc20 pm20 an20 cd20 ct20, whole_parts := f21, fd_whole_parts := PySem.W.fnOf "whole_parts" "whole_parts" (defArgs s_whole_parts) (defBody s_whole_parts) (defScope s_whole_parts) .none kV21 dc21 pm21 an21 cd21 ct21, poly_from := f22, fd_poly_from := PySem.W.fnOf "poly_from" "poly_from" (defArgs s_poly_from) (defBody s_poly_from) (defScope s_poly_from) .none kV22 dc22 pm22 an22 cd22 ct22, combined_polys := f23, fd_combined_polys := PySem.W.fnOf "combined_polys" "combined_polys" (defArgs s_combined_polys) (defBody s_combined_polys) (defScope s_combined_polys) .none kV23 dc23 pm23 an23 cd23 ct23, multiplied_rows := f24, fd_multiplied_rows := PySem.W.fnOf "multiplied_rows" "multiplied_rows" (defArgs s_multiplied_rows) (defBody s_multiplied_rows) (defScope s_multiplied_rows) .none kV24 dc24 pm24 an24 cd24 ct24, multiplied_polys := f25, fd_multiplied_polys := PySem.W.fnOf "multiplied_polys" "multiplied_polys" (defArgs s_multiplied_polys) (defBody s_multiplied_polys) (defScope s_multiplied_polys) .none kV25 dc25 pm25 an25 cd25 ct25, value_of_rows := f26, fd_value_of_rows := PySem.W.fnOf "value_of_rows" "value_of_rows" (defArgs s_value_of_rows) (defBody s_value_of_rows) (defScope s_value_of_rows) .none kV26 dc26 pm26 an26 cd26 ct26, value_at := f27, fd_value_at := PySem.W.fnOf "value_at" "value_at" (defArgs s_value_at) (defBody s_value_at) (defScope s_value_at) .none kV27 dc27 pm27 an27 cd27 ct27, poly_less := f28, fd_poly_less := PySem.W.fnOf "poly_less" "poly_less" (defArgs s_poly_less) (defBody s_poly_less) (defScope s_poly_less) .none kV28 dc28 pm28 an28 cd28 ct28, poly_times := f29, fd_poly_times := PySem.W.fnOf "poly_times" "poly_times" (defArgs s_poly_times) (defBody s_poly_times) (defScope s_poly_times) .none kV29 dc29 pm29 an29 cd29 ct29, poly_of := f30, fd_poly_of := PySem.W.fnOf "poly_of" "poly_of" (defArgs s_poly_of) (defBody s_poly_of) (defScope s_poly_of) .none kV30 dc30 pm30 an30 cd30 ct30, sum_of_products := f31, fd_sum_of_products := PySem.W.fnOf "sum_of_products" "sum_of_products" (defArgs s_sum_of_products) (defBody s_sum_of_products) (defScope s_sum_of_products) .none kV31 dc31 pm31 an31 cd31 ct31, window_back := f32, fd_window_back := PySem.W.fnOf "window_back" "window_back" (defArgs s_window_back) (defBody s_window_back) (defScope s_window_back) .none kV32 dc32 pm32 an32 cd32 ct32, terms_back := f33, fd_terms_back := PySem.W.fnOf "terms_back" "terms_back" (defArgs s_terms_back) (defBody s_terms_back) (defScope s_terms_back) .none kV33 dc33 pm33 an33 cd33 ct33, no_shift := f34, fd_no_shift := PySem.W.fnOf "no_shift" "no_shift" (defArgs s_no_shift) (defBody s_no_shift) (defScope s_no_shift) .none kV34 dc34 pm34 an34 cd34 ct34, shift_forward := f35, fd_shift_forward := PySem.W.fnOf "shift_forward" "shift_forward" (defArgs s_shift_forward) (defBody s_shift_forward) (defScope s_shift_forward) .none kV35 dc35 pm35 an35 cd35 ct35, shift_back := f36, fd_shift_back := PySem.W.fnOf "shift_back" "shift_back" (defArgs s_shift_back) (defBody s_shift_back) (defScope s_shift_back) .none kV36 dc36 pm36 an36 cd36 ct36, shift_behind := f37, fd_shift_behind := PySem.W.fnOf "shift_behind" "shift_behind" (defArgs s_shift_behind) (defBody s_shift_behind) (defScope s_shift_behind) .none kV37 dc37 pm37 an37 cd37 ct37, shift_by := f38, fd_shift_by := PySem.W.fnOf "shift_by" "shift_by" (defArgs s_shift_by) (defBody s_shift_by) (defScope s_shift_by) .none kV38 dc38 pm38 an38 cd38 ct38, turned_factors := f39, fd_turned_factors := PySem.W.fnOf "turned_factors" "turned_factors" (defArgs s_turned_factors) (defBody s_turned_factors) (defScope s_turned_factors) .none kV39 dc39 pm39 an39 cd39 ct39, bottom_row := f40, fd_bottom_row := PySem.W.fnOf "bottom_row" "bottom_row" (defArgs s_bottom_row) (defBody s_bottom_row) (defScope s_bottom_row) .none kV40 dc40 pm40 an40 cd40 ct40, product_below := f41, fd_product_below := PySem.W.fnOf "product_below" "product_below" (defArgs s_product_below) (defBody s_product_below) (defScope s_product_below) .none kV41 dc41 pm41 an41 cd41 ct41, Row__init := f42, fd_Row__init := PySem.W.fnOf "__init__" "Row.__init__" (defArgs s_Row__init) (defBody s_Row__init) (defScope s_Row__init) .none kV42 dc42 pm42 an42 cd42 ct42, Row__term := f43, fd_Row__term := PySem.W.fnOf "term" "Row.term" (defArgs s_Row__term) (defBody s_Row__term) (defScope s_Row__term) .none kV43 dc43 pm43 an43 cd43 ct43, Row__moved := f44, fd_Row__moved := PySem.W.fnOf "moved" "Row.moved" (defArgs s_Row__moved) (defBody s_Row__moved) (defScope s_Row__moved) .none kV44 dc44 pm44 an44 cd44 ct44, Row__turned := f45, fd_Row__turned := PySem.W.fnOf "turned" "Row.turned" (defArgs s_Row__turned) (defBody s_Row__turned) (defScope s_Row__turned) .none kV45 dc45 pm45 an45 cd45 ct45, need_integer := f46, fd_need_integer := PySem.W.fnOf "need_integer" "need_integer" (defArgs s_need_integer) (defBody s_need_integer) (defScope s_need_integer) .none kV46 dc46 pm46 an46 cd46 ct46, fraction := f47, fd_fraction := PySem.W.fnOf "fraction" "fraction" (defArgs s_fraction) (defBody s_fraction) (defScope s_fraction) .none kV47 dc47 pm47 an47 cd47 ct47, back_fraction := f48, fd_back_fraction := PySem.W.fnOf "back_fraction" "back_fraction" (defArgs s_back_fraction) (defBody s_back_fraction) (defScope s_back_fraction) .none kV48 dc48 pm48 an48 cd48 ct48, _law_open := f49, fd__law_open := PySem.W.fnOf "_law_open" "_law_open" (defArgs s__law_open) (defBody s__law_open) (defScope s__law_open) .none kV49 dc49 pm49 an49 cd49 ct49, _law_draw := f50, fd__law_draw := PySem.W.fnOf "_law_draw" "_law_draw" (defArgs s__law_draw) (defBody s__law_draw) (defScope s__law_draw) .none kV50 dc50 pm50 an50 cd50 ct50, _law_pick := f51, fd__law_pick := PySem.W.fnOf "_law_pick" "_law_pick" (defArgs s__law_pick) (defBody s__law_pick) (defScope s__law_pick) .none kV51 dc51 pm51 an51 cd51 ct51, _law_same := f52, fd__law_same := PySem.W.fnOf "_law_same" "_law_same" (defArgs s__law_same) (defBody s__law_same) (defScope s__law_same) .none kV52 dc52 pm52 an52 cd52 ct52, _law_share := f53, fd__law_share := PySem.W.fnOf "_law_share" "_law_share" (defArgs s__law_share) (defBody s__law_share) (defScope s__law_share) .none kV53 dc53 pm53 an53 cd53 ct53, _law_worth := f54, fd__law_worth := PySem.W.fnOf "_law_worth" "_law_worth" (defArgs s__law_worth) (defBody s__law_worth) (defScope s__law_worth) .none kV54 dc54 pm54 an54 cd54 ct54, _law_row := f55, fd__law_row := PySem.W.fnOf "_law_row" "_law_row" (defArgs s__law_row) (defBody s__law_row) (defScope s__law_row) .none kV55 dc55 pm55 an55 cd55 ct55, _law_window := f56, fd__law_window := PySem.W.fnOf "_law_window" "_law_window" (defArgs s__law_window) (defBody s__law_window) (defScope s__law_window) .none kV56 dc56 pm56 an56 cd56 ct56, _law_turned := f57, fd__law_turned := PySem.W.fnOf "_law_turned" "_law_turned" (defArgs s__law_turned) (defBody s__law_turned) (defScope s__law_turned) .none kV57 dc57 pm57 an57 cd57 ct57, _law_bottom := f58, fd__law_bottom := PySem.W.fnOf "_law_bottom" "_law_bottom" (defArgs s__law_bottom) (defBody s__law_bottom) (defScope s__law_bottom) .none kV58 dc58 pm58 an58 cd58 ct58, _law_top := f59, fd__law_top := PySem.W.fnOf "_law_top" "_law_top" (defArgs s__law_top) (defBody s__law_top) (defScope s__law_top) .none kV59 dc59 pm59 an59 cd59 ct59, _law_poly := f60, fd__law_poly := PySem.W.fnOf "_law_poly" "_law_poly" (defArgs s__law_poly) (defBody s__law_poly) (defScope s__law_poly) .none kV60 dc60 pm60 an60 cd60 ct60, _law_at := f61, fd__law_at := PySem.W.fnOf "_law_at" "_law_at" (defArgs s__law_at) (defBody s__law_at) (defScope s__law_at) .none kV61 dc61 pm61 an61 cd61 ct61, _law_made := f62, fd__law_made := PySem.W.fnOf "_law_made" "_law_made" (defArgs s__law_made) (defBody s__law_made) (defScope s__law_made) .none kV62 dc62 pm62 an62 cd62 ct62, _law_is := f63, fd__law_is := PySem.W.fnOf "_law_is" "_law_is" (defArgs s__law_is) (defBody s__law_is) (defScope s__law_is) .none kV63 dc63 pm63 an63 cd63 ct63, _law_wrong_row := f64, fd__law_wrong_row := PySem.W.fnOf "_law_wrong_row" "_law_wrong_row" (defArgs s__law_wrong_row) (defBody s__law_wrong_row) (defScope s__law_wrong_row) .none kV64 dc64 pm64 an64 cd64 ct64, _law_row_refused := f65, fd__law_row_refused := PySem.W.fnOf "_law_row_refused" "_law_row_refused" (defArgs s__law_row_refused) (defBody s__law_row_refused) (defScope s__law_row_refused) .none kV65 dc65 pm65 an65 cd65 ct65, _law_number_refused := f66, fd__law_number_refused := PySem.W.fnOf "_law_number_refused" "_law_number_refused" (defArgs s__law_number_refused) (defBody s__law_number_refused) (defScope s__law_number_refused) .none kV66 dc66 pm66 an66 cd66 ct66, _law_terms_right := f67, fd__law_terms_right := PySem.W.fnOf "_law_terms_right" "_law_terms_right" (defArgs s__law_terms_right) (defBody s__law_terms_right) (defScope s__law_terms_right) .none kV67 dc67 pm67 an67 cd67 ct67, _law_dues := f68, fd__law_dues := PySem.W.fnOf "_law_dues" "_law_dues" (defArgs s__law_dues) (defBody s__law_dues) (defScope s__law_dues) .none kV68 dc68 pm68 an68 cd68 ct68, _law_fractions_right := f69, fd__law_fractions_right := PySem.W.fnOf "_law_fractions_right" "_law_fractions_right" (defArgs s__law_fractions_right) (defBody s__law_fractions_right) (defScope s__law_fractions_right) .none kV69 dc69 pm69 an69 cd69 ct69, _law_all := f70, fd__law_all := PySem.W.fnOf "_law_all" "_law_all" (defArgs s__law_all) (defBody s__law_all) (defScope s__law_all) .none kV70 dc70 pm70 an70 cd70 ct70, law := fa, fd_law := PySem.W.fnOf "law" "law" (defArgs s_law) (defBody s_law) (defScope s_law) .none kV71 dc71 pm71 an71 cd71 ct71, c_CountError := C0, c_InvalidNumber := C1, c_InvalidShare := C2, c_InvalidValues := C3, c_InvalidRow := C4, c_Undefined := C5, c_Row := C6, k_NOUGHT := K0 }, rfl, ?_⟩
  exact {
    F_is_integer := fun_mk (st := s_is_integer) l1 c1 k1
    m_is_integer := PySem.W.mg_of X G a1
    F_is_sequence := fun_mk (st := s_is_sequence) l2 c2 k2
    m_is_sequence := PySem.W.mg_of X G a2
    F_is_pair := fun_mk (st := s_is_pair) l3 c3 k3
    m_is_pair := PySem.W.mg_of X G a3
    F_are_integers := fun_mk (st := s_are_integers) l4 c4 k4
    m_are_integers := PySem.W.mg_of X G a4
    F_frozen := fun_mk (st := s_frozen) l5 c5 k5
    m_frozen := PySem.W.mg_of X G a5
    F_InvalidNumber__init := fun_mk (st := s_InvalidNumber__init) l6 c6 k6
    F_InvalidShare__init := fun_mk (st := s_InvalidShare__init) l7 c7 k7
    F_InvalidValues__init := fun_mk (st := s_InvalidValues__init) l8 c8 k8
    F_InvalidRow__init := fun_mk (st := s_InvalidRow__init) l9 c9 k9
    F_Undefined__init := fun_mk (st := s_Undefined__init) l10 c10 k10
    F_common_divisor := fun_mk (st := s_common_divisor) l11 c11 k11
    m_common_divisor := PySem.W.mg_of X G a11
    F_common_multiple := fun_mk (st := s_common_multiple) l12 c12 k12
    m_common_multiple := PySem.W.mg_of X G a12
    F_is_share := fun_mk (st := s_is_share) l13 c13 k13
    m_is_share := PySem.W.mg_of X G a13
    F_is_amount := fun_mk (st := s_is_amount) l14 c14 k14
    m_is_amount := PySem.W.mg_of X G a14
    F_as_share := fun_mk (st := s_as_share) l15 c15 k15
    m_as_share := PySem.W.mg_of X G a15
    F_reduced_pair := fun_mk (st := s_reduced_pair) l16 c16 k16
    m_reduced_pair := PySem.W.mg_of X G a16
    F_less := fun_mk (st := s_less) l17 c17 k17
    m_less := PySem.W.mg_of X G a17
    F_over := fun_mk (st := s_over) l18 c18 k18
    m_over := PySem.W.mg_of X G a18
    F_common_bottom := fun_mk (st := s_common_bottom) l19 c19 k19
    m_common_bottom := PySem.W.mg_of X G a19
    F_scaled_to := fun_mk (st := s_scaled_to) l20 c20 k20
    m_scaled_to := PySem.W.mg_of X G a20
    F_whole_parts := fun_mk (st := s_whole_parts) l21 c21 k21
    m_whole_parts := PySem.W.mg_of X G a21
    F_poly_from := fun_mk (st := s_poly_from) l22 c22 k22
    m_poly_from := PySem.W.mg_of X G a22
    F_combined_polys := fun_mk (st := s_combined_polys) l23 c23 k23
    m_combined_polys := PySem.W.mg_of X G a23
    F_multiplied_rows := fun_mk (st := s_multiplied_rows) l24 c24 k24
    m_multiplied_rows := PySem.W.mg_of X G a24
    F_multiplied_polys := fun_mk (st := s_multiplied_polys) l25 c25 k25
    m_multiplied_polys := PySem.W.mg_of X G a25
    F_value_of_rows := fun_mk (st := s_value_of_rows) l26 c26 k26
    m_value_of_rows := PySem.W.mg_of X G a26
    F_value_at := fun_mk (st := s_value_at) l27 c27 k27
    m_value_at := PySem.W.mg_of X G a27
    F_poly_less := fun_mk (st := s_poly_less) l28 c28 k28
    m_poly_less := PySem.W.mg_of X G a28
    F_poly_times := fun_mk (st := s_poly_times) l29 c29 k29
    m_poly_times := PySem.W.mg_of X G a29
    F_poly_of := fun_mk (st := s_poly_of) l30 c30 k30
    m_poly_of := PySem.W.mg_of X G a30
    F_sum_of_products := fun_mk (st := s_sum_of_products) l31 c31 k31
    m_sum_of_products := PySem.W.mg_of X G a31
    F_window_back := fun_mk (st := s_window_back) l32 c32 k32
    m_window_back := PySem.W.mg_of X G a32
    F_terms_back := fun_mk (st := s_terms_back) l33 c33 k33
    m_terms_back := PySem.W.mg_of X G a33
    F_no_shift := fun_mk (st := s_no_shift) l34 c34 k34
    m_no_shift := PySem.W.mg_of X G a34
    F_shift_forward := fun_mk (st := s_shift_forward) l35 c35 k35
    m_shift_forward := PySem.W.mg_of X G a35
    F_shift_back := fun_mk (st := s_shift_back) l36 c36 k36
    m_shift_back := PySem.W.mg_of X G a36
    F_shift_behind := fun_mk (st := s_shift_behind) l37 c37 k37
    m_shift_behind := PySem.W.mg_of X G a37
    F_shift_by := fun_mk (st := s_shift_by) l38 c38 k38
    m_shift_by := PySem.W.mg_of X G a38
    F_turned_factors := fun_mk (st := s_turned_factors) l39 c39 k39
    m_turned_factors := PySem.W.mg_of X G a39
    F_bottom_row := fun_mk (st := s_bottom_row) l40 c40 k40
    m_bottom_row := PySem.W.mg_of X G a40
    F_product_below := fun_mk (st := s_product_below) l41 c41 k41
    m_product_below := PySem.W.mg_of X G a41
    F_Row__init := fun_mk (st := s_Row__init) l42 c42 k42
    F_Row__term := fun_mk (st := s_Row__term) l43 c43 k43
    F_Row__moved := fun_mk (st := s_Row__moved) l44 c44 k44
    F_Row__turned := fun_mk (st := s_Row__turned) l45 c45 k45
    F_need_integer := fun_mk (st := s_need_integer) l46 c46 k46
    m_need_integer := PySem.W.mg_of X G a46
    F_fraction := fun_mk (st := s_fraction) l47 c47 k47
    m_fraction := PySem.W.mg_of X G a47
    F_back_fraction := fun_mk (st := s_back_fraction) l48 c48 k48
    m_back_fraction := PySem.W.mg_of X G a48
    F__law_open := fun_mk (st := s__law_open) l49 c49 k49
    m__law_open := PySem.W.mg_of X G a49
    F__law_draw := fun_mk (st := s__law_draw) l50 c50 k50
    m__law_draw := PySem.W.mg_of X G a50
    F__law_pick := fun_mk (st := s__law_pick) l51 c51 k51
    m__law_pick := PySem.W.mg_of X G a51
    F__law_same := fun_mk (st := s__law_same) l52 c52 k52
    m__law_same := PySem.W.mg_of X G a52
    F__law_share := fun_mk (st := s__law_share) l53 c53 k53
    m__law_share := PySem.W.mg_of X G a53
    F__law_worth := fun_mk (st := s__law_worth) l54 c54 k54
    m__law_worth := PySem.W.mg_of X G a54
    F__law_row := fun_mk (st := s__law_row) l55 c55 k55
    m__law_row := PySem.W.mg_of X G a55
    F__law_window := fun_mk (st := s__law_window) l56 c56 k56
    m__law_window := PySem.W.mg_of X G a56
    F__law_turned := fun_mk (st := s__law_turned) l57 c57 k57
    m__law_turned := PySem.W.mg_of X G a57
    F__law_bottom := fun_mk (st := s__law_bottom) l58 c58 k58
    m__law_bottom := PySem.W.mg_of X G a58
    F__law_top := fun_mk (st := s__law_top) l59 c59 k59
    m__law_top := PySem.W.mg_of X G a59
    F__law_poly := fun_mk (st := s__law_poly) l60 c60 k60
    m__law_poly := PySem.W.mg_of X G a60
    F__law_at := fun_mk (st := s__law_at) l61 c61 k61
    m__law_at := PySem.W.mg_of X G a61
    F__law_made := fun_mk (st := s__law_made) l62 c62 k62
    m__law_made := PySem.W.mg_of X G a62
    F__law_is := fun_mk (st := s__law_is) l63 c63 k63
    m__law_is := PySem.W.mg_of X G a63
    F__law_wrong_row := fun_mk (st := s__law_wrong_row) l64 c64 k64
    m__law_wrong_row := PySem.W.mg_of X G a64
    F__law_row_refused := fun_mk (st := s__law_row_refused) l65 c65 k65
    m__law_row_refused := PySem.W.mg_of X G a65
    F__law_number_refused := fun_mk (st := s__law_number_refused) l66 c66 k66
    m__law_number_refused := PySem.W.mg_of X G a66
    F__law_terms_right := fun_mk (st := s__law_terms_right) l67 c67 k67
    m__law_terms_right := PySem.W.mg_of X G a67
    F__law_dues := fun_mk (st := s__law_dues) l68 c68 k68
    m__law_dues := PySem.W.mg_of X G a68
    F__law_fractions_right := fun_mk (st := s__law_fractions_right) l69 c69 k69
    m__law_fractions_right := PySem.W.mg_of X G a69
    F__law_all := fun_mk (st := s__law_all) l70 c70 k70
    m__law_all := PySem.W.mg_of X G a70
    F_law := fun_mk (st := s_law) l71 c71 k71
    m_law := PySem.W.mg_of X G a71
    m_CountError := PySem.W.mg_of X G aC0
    te_CountError := PySem.W.exm_ref eC0 hC0 tC0 sC0
    m_InvalidNumber := PySem.W.mg_of X G aC1
    te_InvalidNumber := PySem.W.exm_ref eC1 hC1 tC1 sC1
    te_InvalidNumber_CountError := PySem.W.exm_ref eC0 hC0 tC0 sC1_0
    ox_InvalidNumber := ⟨⟨nm1, q1, N1, bs1, _, sn1, sub1, ab1, col1, dd1, ma1, mb1, mc1, me1, mf1, xL1, by first | rfl | decide +kernel⟩, sa1, eC1, tC1, kC1⟩
    xf_InvalidNumber := ⟨ga1, gg1, eC1, hC1⟩
    ec_InvalidNumber := ⟨ga1, gg1, eC1, hC1, ha1, hn1, ht1, hm1⟩
    i_InvalidNumber := a6
    t_InvalidNumber := t6
    kx_InvalidNumber_InvalidRow := kx1_InvalidRow
    kx_InvalidNumber_InvalidShare := kx1_InvalidShare
    kx_InvalidNumber_InvalidNumber := kx1_InvalidNumber
    no_InvalidNumber_value := no1_value
    m_InvalidShare := PySem.W.mg_of X G aC2
    te_InvalidShare := PySem.W.exm_ref eC2 hC2 tC2 sC2
    te_InvalidShare_CountError := PySem.W.exm_ref eC0 hC0 tC0 sC2_0
    ox_InvalidShare := ⟨⟨nm2, q2, N2, bs2, _, sn2, sub2, ab2, col2, dd2, ma2, mb2, mc2, me2, mf2, xL2, by first | rfl | decide +kernel⟩, sa2, eC2, tC2, kC2⟩
    xf_InvalidShare := ⟨ga2, gg2, eC2, hC2⟩
    i_InvalidShare := a7
    t_InvalidShare := t7
    no_InvalidShare_value := no2_value
    m_InvalidValues := PySem.W.mg_of X G aC3
    te_InvalidValues := PySem.W.exm_ref eC3 hC3 tC3 sC3
    te_InvalidValues_CountError := PySem.W.exm_ref eC0 hC0 tC0 sC3_0
    ox_InvalidValues := ⟨⟨nm3, q3, N3, bs3, _, sn3, sub3, ab3, col3, dd3, ma3, mb3, mc3, me3, mf3, xL3, by first | rfl | decide +kernel⟩, sa3, eC3, tC3, kC3⟩
    xf_InvalidValues := ⟨ga3, gg3, eC3, hC3⟩
    i_InvalidValues := a8
    t_InvalidValues := t8
    no_InvalidValues_value := no3_value
    m_InvalidRow := PySem.W.mg_of X G aC4
    te_InvalidRow := PySem.W.exm_ref eC4 hC4 tC4 sC4
    te_InvalidRow_CountError := PySem.W.exm_ref eC0 hC0 tC0 sC4_0
    ox_InvalidRow := ⟨⟨nm4, q4, N4, bs4, _, sn4, sub4, ab4, col4, dd4, ma4, mb4, mc4, me4, mf4, xL4, by first | rfl | decide +kernel⟩, sa4, eC4, tC4, kC4⟩
    xf_InvalidRow := ⟨ga4, gg4, eC4, hC4⟩
    ec_InvalidRow := ⟨ga4, gg4, eC4, hC4, ha4, hn4, ht4, hm4⟩
    i_InvalidRow := a9
    t_InvalidRow := t9
    kx_InvalidRow_InvalidNumber := kx4_InvalidNumber
    kx_InvalidRow_InvalidShare := kx4_InvalidShare
    kx_InvalidRow_InvalidValues := kx4_InvalidValues
    kx_InvalidRow_InvalidRow := kx4_InvalidRow
    no_InvalidRow_value := no4_value
    m_Undefined := PySem.W.mg_of X G aC5
    te_Undefined := PySem.W.exm_ref eC5 hC5 tC5 sC5
    te_Undefined_CountError := PySem.W.exm_ref eC0 hC0 tC0 sC5_0
    ox_Undefined := ⟨⟨nm5, q5, N5, bs5, _, sn5, sub5, ab5, col5, dd5, ma5, mb5, mc5, me5, mf5, xL5, by first | rfl | decide +kernel⟩, sa5, eC5, tC5, kC5⟩
    xf_Undefined := ⟨ga5, gg5, eC5, hC5⟩
    i_Undefined := a10
    t_Undefined := t10
    no_Undefined_what := no5_what
    m_Row := PySem.W.mg_of X G aC6
    cl_Row := ⟨pg6, hd6, po6, sb6⟩
    ot_Row := ⟨⟨pg6, hd6, po6, sb6⟩, ha6, hn6, ht6, hm6⟩
    kt_Row_int := kt6_int
    kt_Row_bool := kt6_bool
    kt_Row_tuple := kt6_tuple
    kt_Row_list := kt6_list
    kt_Row_str := kt6_str
    mk_Row := ⟨mk6, a42, i42, kc6⟩
    me_Row__term := ⟨a43, i43, k43⟩
    me_Row__moved := ⟨a44, i44, k44⟩
    me_Row__turned := ⟨a45, i45, k45⟩
    kx_Row_Row := kx6_Row
    no_Row_factors := no6_factors
    no_Row_first := no6_first
    m_NOUGHT := PySem.W.mg_of X G aK0
    k_NOUGHT := fun _ => .inr ⟨_, _, _, lK0, rfl, rfl, (by rw [sizeLine_eq]; show 2 ≤ 16777216; decide), .cons ⟨_, rfl⟩ (.cons ⟨_, rfl⟩ (.nil))⟩
    b_abs := PySem.W.mg_none_of X G nb_abs
    b_len := PySem.W.mg_none_of X G nb_len
    b_range := PySem.W.mg_none_of X G nb_range
    b_int := PySem.W.mg_none_of X G nb_int
    b_str := PySem.W.mg_none_of X G nb_str
    b_isinstance := PySem.W.mg_none_of X G nb_isinstance
    b_tuple := PySem.W.mg_none_of X G nb_tuple
    b_list := PySem.W.mg_none_of X G nb_list
    b_sum := PySem.W.mg_none_of X G nb_sum
    b_min := PySem.W.mg_none_of X G nb_min
    b_max := PySem.W.mg_none_of X G nb_max
    b_all := PySem.W.mg_none_of X G nb_all
    b_enumerate := PySem.W.mg_none_of X G nb_enumerate
    b_zip := PySem.W.mg_none_of X G nb_zip
    b_reversed := PySem.W.mg_none_of X G nb_reversed
    b_bool := PySem.W.mg_none_of X G nb_bool
    b_ValueError := PySem.W.mg_none_of X G nb_ValueError }
theorem b_is_integer {K : PySem.W.Frag} {mg : Str → Option Value} {A : Ad} (T : Txt K mg A) : Binds K A.fd_is_integer ["value"] [] := T.F_is_integer.binds (ps := ["value"]) fun _ _ _ _ _ _ us hl => match us, hl with | [_], _ => rfl
theorem b_is_sequence {K : PySem.W.Frag} {mg : Str → Option Value} {A : Ad} (T : Txt K mg A) : Binds K A.fd_is_sequence ["value"] [] := T.F_is_sequence.binds (ps := ["value"]) fun _ _ _ _ _ _ us hl => match us, hl with | [_], _ => rfl
theorem b_is_pair {K : PySem.W.Frag} {mg : Str → Option Value} {A : Ad} (T : Txt K mg A) : Binds K A.fd_is_pair ["value"] [] := T.F_is_pair.binds (ps := ["value"]) fun _ _ _ _ _ _ us hl => match us, hl with | [_], _ => rfl
theorem b_are_integers {K : PySem.W.Frag} {mg : Str → Option Value} {A : Ad} (T : Txt K mg A) : Binds K A.fd_are_integers ["value"] [] := T.F_are_integers.binds (ps := ["value"]) fun _ _ _ _ _ _ us hl => match us, hl with | [_], _ => rfl
theorem b_frozen {K : PySem.W.Frag} {mg : Str → Option Value} {A : Ad} (T : Txt K mg A) : Binds K A.fd_frozen ["value"] [] := T.F_frozen.binds (ps := ["value"]) fun _ _ _ _ _ _ us hl => match us, hl with | [_], _ => rfl
theorem b_InvalidNumber__init {K : PySem.W.Frag} {mg : Str → Option Value} {A : Ad} (T : Txt K mg A) : Binds K A.fd_InvalidNumber__init ["self", "value"] [] := T.F_InvalidNumber__init.binds (ps := ["self", "value"]) fun _ _ _ _ _ _ us hl => match us, hl with | [_, _], _ => rfl
theorem b_InvalidShare__init {K : PySem.W.Frag} {mg : Str → Option Value} {A : Ad} (T : Txt K mg A) : Binds K A.fd_InvalidShare__init ["self", "value"] [] := T.F_InvalidShare__init.binds (ps := ["self", "value"]) fun _ _ _ _ _ _ us hl => match us, hl with | [_, _], _ => rfl
theorem b_InvalidValues__init {K : PySem.W.Frag} {mg : Str → Option Value} {A : Ad} (T : Txt K mg A) : Binds K A.fd_InvalidValues__init ["self", "value"] [] := T.F_InvalidValues__init.binds (ps := ["self", "value"]) fun _ _ _ _ _ _ us hl => match us, hl with | [_, _], _ => rfl
theorem b_InvalidRow__init {K : PySem.W.Frag} {mg : Str → Option Value} {A : Ad} (T : Txt K mg A) : Binds K A.fd_InvalidRow__init ["self", "value"] [] := T.F_InvalidRow__init.binds (ps := ["self", "value"]) fun _ _ _ _ _ _ us hl => match us, hl with | [_, _], _ => rfl
theorem b_Undefined__init {K : PySem.W.Frag} {mg : Str → Option Value} {A : Ad} (T : Txt K mg A) : Binds K A.fd_Undefined__init ["self", "what"] [] := T.F_Undefined__init.binds (ps := ["self", "what"]) fun _ _ _ _ _ _ us hl => match us, hl with | [_, _], _ => rfl
theorem b_common_divisor {K : PySem.W.Frag} {mg : Str → Option Value} {A : Ad} (T : Txt K mg A) : Binds K A.fd_common_divisor ["a", "b"] [] := T.F_common_divisor.binds (ps := ["a", "b"]) fun _ _ _ _ _ _ us hl => match us, hl with | [_, _], _ => rfl
theorem b_common_multiple {K : PySem.W.Frag} {mg : Str → Option Value} {A : Ad} (T : Txt K mg A) : Binds K A.fd_common_multiple ["a", "b"] [] := T.F_common_multiple.binds (ps := ["a", "b"]) fun _ _ _ _ _ _ us hl => match us, hl with | [_, _], _ => rfl
theorem b_is_share {K : PySem.W.Frag} {mg : Str → Option Value} {A : Ad} (T : Txt K mg A) : Binds K A.fd_is_share ["value"] [] := T.F_is_share.binds (ps := ["value"]) fun _ _ _ _ _ _ us hl => match us, hl with | [_], _ => rfl
theorem b_is_amount {K : PySem.W.Frag} {mg : Str → Option Value} {A : Ad} (T : Txt K mg A) : Binds K A.fd_is_amount ["value"] [] := T.F_is_amount.binds (ps := ["value"]) fun _ _ _ _ _ _ us hl => match us, hl with | [_], _ => rfl
theorem b_as_share {K : PySem.W.Frag} {mg : Str → Option Value} {A : Ad} (T : Txt K mg A) : Binds K A.fd_as_share ["value"] [] := T.F_as_share.binds (ps := ["value"]) fun _ _ _ _ _ _ us hl => match us, hl with | [_], _ => rfl
theorem b_reduced_pair {K : PySem.W.Frag} {mg : Str → Option Value} {A : Ad} (T : Txt K mg A) : Binds K A.fd_reduced_pair ["a", "b"] [] := T.F_reduced_pair.binds (ps := ["a", "b"]) fun _ _ _ _ _ _ us hl => match us, hl with | [_, _], _ => rfl
theorem b_less {K : PySem.W.Frag} {mg : Str → Option Value} {A : Ad} (T : Txt K mg A) : Binds K A.fd_less ["one", "other"] [] := T.F_less.binds (ps := ["one", "other"]) fun _ _ _ _ _ _ us hl => match us, hl with | [_, _], _ => rfl
theorem b_over {K : PySem.W.Frag} {mg : Str → Option Value} {A : Ad} (T : Txt K mg A) : Binds K A.fd_over ["one", "other"] [] := T.F_over.binds (ps := ["one", "other"]) fun _ _ _ _ _ _ us hl => match us, hl with | [_, _], _ => rfl
theorem b_common_bottom {K : PySem.W.Frag} {mg : Str → Option Value} {A : Ad} (T : Txt K mg A) : Binds K A.fd_common_bottom ["shares"] [] := T.F_common_bottom.binds (ps := ["shares"]) fun _ _ _ _ _ _ us hl => match us, hl with | [_], _ => rfl
theorem b_scaled_to {K : PySem.W.Frag} {mg : Str → Option Value} {A : Ad} (T : Txt K mg A) : Binds K A.fd_scaled_to ["share", "factor"] [] := T.F_scaled_to.binds (ps := ["share", "factor"]) fun _ _ _ _ _ _ us hl => match us, hl with | [_, _], _ => rfl
theorem b_whole_parts {K : PySem.W.Frag} {mg : Str → Option Value} {A : Ad} (T : Txt K mg A) : Binds K A.fd_whole_parts ["poly"] [] := T.F_whole_parts.binds (ps := ["poly"]) fun _ _ _ _ _ _ us hl => match us, hl with | [_], _ => rfl
theorem b_poly_from {K : PySem.W.Frag} {mg : Str → Option Value} {A : Ad} (T : Txt K mg A) : Binds K A.fd_poly_from ["numbers", "bottom"] [] := T.F_poly_from.binds (ps := ["numbers", "bottom"]) fun _ _ _ _ _ _ us hl => match us, hl with | [_, _], _ => rfl
theorem b_combined_polys {K : PySem.W.Frag} {mg : Str → Option Value} {A : Ad} (T : Txt K mg A) : Binds K A.fd_combined_polys ["one", "factor", "other", "by"] [] := T.F_combined_polys.binds (ps := ["one", "factor", "other", "by"]) fun _ _ _ _ _ _ us hl => match us, hl with | [_, _, _, _], _ => rfl
theorem b_multiplied_rows {K : PySem.W.Frag} {mg : Str → Option Value} {A : Ad} (T : Txt K mg A) : Binds K A.fd_multiplied_rows ["one", "other"] [] := T.F_multiplied_rows.binds (ps := ["one", "other"]) fun _ _ _ _ _ _ us hl => match us, hl with | [_, _], _ => rfl
theorem b_multiplied_polys {K : PySem.W.Frag} {mg : Str → Option Value} {A : Ad} (T : Txt K mg A) : Binds K A.fd_multiplied_polys ["one", "other"] [] := T.F_multiplied_polys.binds (ps := ["one", "other"]) fun _ _ _ _ _ _ us hl => match us, hl with | [_, _], _ => rfl
theorem b_value_of_rows {K : PySem.W.Frag} {mg : Str → Option Value} {A : Ad} (T : Txt K mg A) : Binds K A.fd_value_of_rows ["numbers", "bottom", "x"] [] := T.F_value_of_rows.binds (ps := ["numbers", "bottom", "x"]) fun _ _ _ _ _ _ us hl => match us, hl with | [_, _, _], _ => rfl
theorem b_value_at {K : PySem.W.Frag} {mg : Str → Option Value} {A : Ad} (T : Txt K mg A) : Binds K A.fd_value_at ["poly", "x"] [] := T.F_value_at.binds (ps := ["poly", "x"]) fun _ _ _ _ _ _ us hl => match us, hl with | [_, _], _ => rfl
theorem b_poly_less {K : PySem.W.Frag} {mg : Str → Option Value} {A : Ad} (T : Txt K mg A) : Binds K A.fd_poly_less ["one", "other"] [] := T.F_poly_less.binds (ps := ["one", "other"]) fun _ _ _ _ _ _ us hl => match us, hl with | [_, _], _ => rfl
theorem b_poly_times {K : PySem.W.Frag} {mg : Str → Option Value} {A : Ad} (T : Txt K mg A) : Binds K A.fd_poly_times ["one", "other"] [] := T.F_poly_times.binds (ps := ["one", "other"]) fun _ _ _ _ _ _ us hl => match us, hl with | [_, _], _ => rfl
theorem b_poly_of {K : PySem.W.Frag} {mg : Str → Option Value} {A : Ad} (T : Txt K mg A) : Binds K A.fd_poly_of ["values"] [] := T.F_poly_of.binds (ps := ["values"]) fun _ _ _ _ _ _ us hl => match us, hl with | [_], _ => rfl
theorem b_sum_of_products {K : PySem.W.Frag} {mg : Str → Option Value} {A : Ad} (T : Txt K mg A) : Binds K A.fd_sum_of_products ["one", "other"] [] := T.F_sum_of_products.binds (ps := ["one", "other"]) fun _ _ _ _ _ _ us hl => match us, hl with | [_, _], _ => rfl
theorem b_window_back {K : PySem.W.Frag} {mg : Str → Option Value} {A : Ad} (T : Txt K mg A) : Binds K A.fd_window_back ["factors", "window"] [] := T.F_window_back.binds (ps := ["factors", "window"]) fun _ _ _ _ _ _ us hl => match us, hl with | [_, _], _ => rfl
theorem b_terms_back {K : PySem.W.Frag} {mg : Str → Option Value} {A : Ad} (T : Txt K mg A) : Binds K A.fd_terms_back ["factors", "window", "many"] [] := T.F_terms_back.binds (ps := ["factors", "window", "many"]) fun _ _ _ _ _ _ us hl => match us, hl with | [_, _, _], _ => rfl
theorem b_no_shift {K : PySem.W.Frag} {mg : Str → Option Value} {A : Ad} (T : Txt K mg A) : Binds K A.fd_no_shift ["many"] [] := T.F_no_shift.binds (ps := ["many"]) fun _ _ _ _ _ _ us hl => match us, hl with | [_], _ => rfl
theorem b_shift_forward {K : PySem.W.Frag} {mg : Str → Option Value} {A : Ad} (T : Txt K mg A) : Binds K A.fd_shift_forward ["factors", "shift"] [] := T.F_shift_forward.binds (ps := ["factors", "shift"]) fun _ _ _ _ _ _ us hl => match us, hl with | [_, _], _ => rfl
theorem b_shift_back {K : PySem.W.Frag} {mg : Str → Option Value} {A : Ad} (T : Txt K mg A) : Binds K A.fd_shift_back ["factors", "shift"] [] := T.F_shift_back.binds (ps := ["factors", "shift"]) fun _ _ _ _ _ _ us hl => match us, hl with | [_, _], _ => rfl
theorem b_shift_behind {K : PySem.W.Frag} {mg : Str → Option Value} {A : Ad} (T : Txt K mg A) : Binds K A.fd_shift_behind ["factors", "one", "other"] [] := T.F_shift_behind.binds (ps := ["factors", "one", "other"]) fun _ _ _ _ _ _ us hl => match us, hl with | [_, _, _], _ => rfl
theorem b_shift_by {K : PySem.W.Frag} {mg : Str → Option Value} {A : Ad} (T : Txt K mg A) : Binds K A.fd_shift_by ["factors", "k"] [] := T.F_shift_by.binds (ps := ["factors", "k"]) fun _ _ _ _ _ _ us hl => match us, hl with | [_, _], _ => rfl
theorem b_turned_factors {K : PySem.W.Frag} {mg : Str → Option Value} {A : Ad} (T : Txt K mg A) : Binds K A.fd_turned_factors ["factors"] [] := T.F_turned_factors.binds (ps := ["factors"]) fun _ _ _ _ _ _ us hl => match us, hl with | [_], _ => rfl
theorem b_bottom_row {K : PySem.W.Frag} {mg : Str → Option Value} {A : Ad} (T : Txt K mg A) : Binds K A.fd_bottom_row ["factors"] [] := T.F_bottom_row.binds (ps := ["factors"]) fun _ _ _ _ _ _ us hl => match us, hl with | [_], _ => rfl
theorem b_product_below {K : PySem.W.Frag} {mg : Str → Option Value} {A : Ad} (T : Txt K mg A) : Binds K A.fd_product_below ["one", "other", "many"] [] := T.F_product_below.binds (ps := ["one", "other", "many"]) fun _ _ _ _ _ _ us hl => match us, hl with | [_, _, _], _ => rfl
theorem b_Row__init {K : PySem.W.Frag} {mg : Str → Option Value} {A : Ad} (T : Txt K mg A) : Binds K A.fd_Row__init ["self", "factors", "first"] [] := T.F_Row__init.binds (ps := ["self", "factors", "first"]) fun _ _ _ _ _ _ us hl => match us, hl with | [_, _, _], _ => rfl
theorem b_Row__term {K : PySem.W.Frag} {mg : Str → Option Value} {A : Ad} (T : Txt K mg A) : Binds K A.fd_Row__term ["self", "k"] [] := T.F_Row__term.binds (ps := ["self", "k"]) fun _ _ _ _ _ _ us hl => match us, hl with | [_, _], _ => rfl
theorem b_Row__moved {K : PySem.W.Frag} {mg : Str → Option Value} {A : Ad} (T : Txt K mg A) : Binds K A.fd_Row__moved ["self", "k"] [] := T.F_Row__moved.binds (ps := ["self", "k"]) fun _ _ _ _ _ _ us hl => match us, hl with | [_, _], _ => rfl
theorem b_Row__turned {K : PySem.W.Frag} {mg : Str → Option Value} {A : Ad} (T : Txt K mg A) : Binds K A.fd_Row__turned ["self"] [] := T.F_Row__turned.binds (ps := ["self"]) fun _ _ _ _ _ _ us hl => match us, hl with | [_], _ => rfl
theorem b_need_integer {K : PySem.W.Frag} {mg : Str → Option Value} {A : Ad} (T : Txt K mg A) : Binds K A.fd_need_integer ["k"] [] := T.F_need_integer.binds (ps := ["k"]) fun _ _ _ _ _ _ us hl => match us, hl with | [_], _ => rfl
theorem b_fraction {K : PySem.W.Frag} {mg : Str → Option Value} {A : Ad} (T : Txt K mg A) : Binds K A.fd_fraction ["row"] [] := T.F_fraction.binds (ps := ["row"]) fun _ _ _ _ _ _ us hl => match us, hl with | [_], _ => rfl
theorem b_back_fraction {K : PySem.W.Frag} {mg : Str → Option Value} {A : Ad} (T : Txt K mg A) : Binds K A.fd_back_fraction ["row"] [] := T.F_back_fraction.binds (ps := ["row"]) fun _ _ _ _ _ _ us hl => match us, hl with | [_], _ => rfl
theorem b__law_open {K : PySem.W.Frag} {mg : Str → Option Value} {A : Ad} (T : Txt K mg A) : Binds K A.fd__law_open ["script"] [] := T.F__law_open.binds (ps := ["script"]) fun _ _ _ _ _ _ us hl => match us, hl with | [_], _ => rfl
theorem b__law_draw {K : PySem.W.Frag} {mg : Str → Option Value} {A : Ad} (T : Txt K mg A) : Binds K A.fd__law_draw ["source", "many"] [] := T.F__law_draw.binds (ps := ["source", "many"]) fun _ _ _ _ _ _ us hl => match us, hl with | [_, _], _ => rfl
theorem b__law_pick {K : PySem.W.Frag} {mg : Str → Option Value} {A : Ad} (T : Txt K mg A) : Binds K A.fd__law_pick ["source", "row"] [] := T.F__law_pick.binds (ps := ["source", "row"]) fun _ _ _ _ _ _ us hl => match us, hl with | [_, _], _ => rfl
theorem b__law_same {K : PySem.W.Frag} {mg : Str → Option Value} {A : Ad} (T : Txt K mg A) : Binds K A.fd__law_same ["told", "due"] [] := T.F__law_same.binds (ps := ["told", "due"]) fun _ _ _ _ _ _ us hl => match us, hl with | [_, _], _ => rfl
theorem b__law_share {K : PySem.W.Frag} {mg : Str → Option Value} {A : Ad} (T : Txt K mg A) : Binds K A.fd__law_share ["a", "b"] [] := T.F__law_share.binds (ps := ["a", "b"]) fun _ _ _ _ _ _ us hl => match us, hl with | [_, _], _ => rfl
theorem b__law_worth {K : PySem.W.Frag} {mg : Str → Option Value} {A : Ad} (T : Txt K mg A) : Binds K A.fd__law_worth ["source"] [] := T.F__law_worth.binds (ps := ["source"]) fun _ _ _ _ _ _ us hl => match us, hl with | [_], _ => rfl
theorem b__law_row {K : PySem.W.Frag} {mg : Str → Option Value} {A : Ad} (T : Txt K mg A) : Binds K A.fd__law_row ["source"] [] := T.F__law_row.binds (ps := ["source"]) fun _ _ _ _ _ _ us hl => match us, hl with | [_], _ => rfl
theorem b__law_window {K : PySem.W.Frag} {mg : Str → Option Value} {A : Ad} (T : Txt K mg A) : Binds K A.fd__law_window ["row", "far"] [] := T.F__law_window.binds (ps := ["row", "far"]) fun _ _ _ _ _ _ us hl => match us, hl with | [_, _], _ => rfl
theorem b__law_turned {K : PySem.W.Frag} {mg : Str → Option Value} {A : Ad} (T : Txt K mg A) : Binds K A.fd__law_turned ["row", "window", "far"] [] := T.F__law_turned.binds (ps := ["row", "window", "far"]) fun _ _ _ _ _ _ us hl => match us, hl with | [_, _, _], _ => rfl
theorem b__law_bottom {K : PySem.W.Frag} {mg : Str → Option Value} {A : Ad} (T : Txt K mg A) : Binds K A.fd__law_bottom ["factors"] [] := T.F__law_bottom.binds (ps := ["factors"]) fun _ _ _ _ _ _ us hl => match us, hl with | [_], _ => rfl
theorem b__law_top {K : PySem.W.Frag} {mg : Str → Option Value} {A : Ad} (T : Txt K mg A) : Binds K A.fd__law_top ["series", "bottom", "many"] [] := T.F__law_top.binds (ps := ["series", "bottom", "many"]) fun _ _ _ _ _ _ us hl => match us, hl with | [_, _, _], _ => rfl
theorem b__law_poly {K : PySem.W.Frag} {mg : Str → Option Value} {A : Ad} (T : Txt K mg A) : Binds K A.fd__law_poly ["worths"] [] := T.F__law_poly.binds (ps := ["worths"]) fun _ _ _ _ _ _ us hl => match us, hl with | [_], _ => rfl
theorem b__law_at {K : PySem.W.Frag} {mg : Str → Option Value} {A : Ad} (T : Txt K mg A) : Binds K A.fd__law_at ["worths", "x"] [] := T.F__law_at.binds (ps := ["worths", "x"]) fun _ _ _ _ _ _ us hl => match us, hl with | [_, _], _ => rfl
theorem b__law_made {K : PySem.W.Frag} {mg : Str → Option Value} {A : Ad} (T : Txt K mg A) : Binds K A.fd__law_made ["source", "row"] [] := T.F__law_made.binds (ps := ["source", "row"]) fun _ _ _ _ _ _ us hl => match us, hl with | [_, _], _ => rfl
theorem b__law_is {K : PySem.W.Frag} {mg : Str → Option Value} {A : Ad} (T : Txt K mg A) : Binds K A.fd__law_is ["made", "row"] [] := T.F__law_is.binds (ps := ["made", "row"]) fun _ _ _ _ _ _ us hl => match us, hl with | [_, _], _ => rfl
theorem b__law_wrong_row {K : PySem.W.Frag} {mg : Str → Option Value} {A : Ad} (T : Txt K mg A) : Binds K A.fd__law_wrong_row ["source", "row"] [] := T.F__law_wrong_row.binds (ps := ["source", "row"]) fun _ _ _ _ _ _ us hl => match us, hl with | [_, _], _ => rfl
theorem b__law_row_refused {K : PySem.W.Frag} {mg : Str → Option Value} {A : Ad} (T : Txt K mg A) : Binds K A.fd__law_row_refused ["pair"] [] := T.F__law_row_refused.binds (ps := ["pair"]) fun _ _ _ _ _ _ us hl => match us, hl with | [_], _ => rfl
theorem b__law_number_refused {K : PySem.W.Frag} {mg : Str → Option Value} {A : Ad} (T : Txt K mg A) : Binds K A.fd__law_number_refused ["made", "bad", "by"] [] := T.F__law_number_refused.binds (ps := ["made", "bad", "by"]) fun _ _ _ _ _ _ us hl => match us, hl with | [_, _, _], _ => rfl
theorem b__law_terms_right {K : PySem.W.Frag} {mg : Str → Option Value} {A : Ad} (T : Txt K mg A) : Binds K A.fd__law_terms_right ["source", "row", "made", "window", "far"] [] := T.F__law_terms_right.binds (ps := ["source", "row", "made", "window", "far"]) fun _ _ _ _ _ _ us hl => match us, hl with | [_, _, _, _, _], _ => rfl
theorem b__law_dues {K : PySem.W.Frag} {mg : Str → Option Value} {A : Ad} (T : Txt K mg A) : Binds K A.fd__law_dues ["row", "window", "far"] [] := T.F__law_dues.binds (ps := ["row", "window", "far"]) fun _ _ _ _ _ _ us hl => match us, hl with | [_, _, _], _ => rfl
theorem b__law_fractions_right {K : PySem.W.Frag} {mg : Str → Option Value} {A : Ad} (T : Txt K mg A) : Binds K A.fd__law_fractions_right ["source", "row", "made", "window", "far"] [] := T.F__law_fractions_right.binds (ps := ["source", "row", "made", "window", "far"]) fun _ _ _ _ _ _ us hl => match us, hl with | [_, _, _, _, _], _ => rfl
theorem b__law_all {K : PySem.W.Frag} {mg : Str → Option Value} {A : Ad} (T : Txt K mg A) : Binds K A.fd__law_all ["script"] [] := T.F__law_all.binds (ps := ["script"]) fun _ _ _ _ _ _ us hl => match us, hl with | [_], _ => rfl
theorem b_law {K : PySem.W.Frag} {mg : Str → Option Value} {A : Ad} (T : Txt K mg A) : Binds K A.fd_law ["script"] [] := T.F_law.binds (ps := ["script"]) fun _ _ _ _ _ _ us hl => match us, hl with | [_], _ => rfl
theorem kn_Row__init_1_first_factors {K : PySem.W.Frag} {mg : Str → Option Value} {A : Ad} (T : Txt K mg A) : KBn K A.fd_Row__init ["self", "factors", "first"] 1 ["first", "factors"] (kwP 1 2 [0, 2, 1]) (kwP 1 2 [0, 2, 1]) := kbnP T.F_Row__init rfl fun _ _ _ _ _ _ us ws h1 h2 => match us, ws, h1, h2 with | [_], [_, _], _, _ => rfl
theorem kb_Row__moved_1_k {K : PySem.W.Frag} {mg : Str → Option Value} {A : Ad} (T : Txt K mg A) : KBinds K A.fd_Row__moved ["self", "k"] ["k"] (kwP 1 1 [0, 1]) (kwP 1 1 [0, 1]) := kbP T.F_Row__moved (by decide) fun _ _ _ _ _ _ us ws h1 h2 => match us, ws, h1, h2 with | [_], [_], _, _ => rfl
theorem kb_Row__term_1_k {K : PySem.W.Frag} {mg : Str → Option Value} {A : Ad} (T : Txt K mg A) : KBinds K A.fd_Row__term ["self", "k"] ["k"] (kwP 1 1 [0, 1]) (kwP 1 1 [0, 1]) := kbP T.F_Row__term (by decide) fun _ _ _ _ _ _ us ws h1 h2 => match us, ws, h1, h2 with | [_], [_], _, _ => rfl
theorem kb_fraction_0_row {K : PySem.W.Frag} {mg : Str → Option Value} {A : Ad} (T : Txt K mg A) : KBinds K A.fd_fraction ["row"] ["row"] (kwP 0 1 [0]) (kwP 0 1 [0]) := kbP T.F_fraction (by decide) fun _ _ _ _ _ _ us ws h1 h2 => match us, ws, h1, h2 with | [], [_], _, _ => rfl
theorem kb_back_fraction_0_row {K : PySem.W.Frag} {mg : Str → Option Value} {A : Ad} (T : Txt K mg A) : KBinds K A.fd_back_fraction ["row"] ["row"] (kwP 0 1 [0]) (kwP 0 1 [0]) := kbP T.F_back_fraction (by decide) fun _ _ _ _ _ _ us ws h1 h2 => match us, ws, h1, h2 with | [], [_], _, _ => rfl
theorem kb_value_at_0_poly_x {K : PySem.W.Frag} {mg : Str → Option Value} {A : Ad} (T : Txt K mg A) : KBinds K A.fd_value_at ["poly", "x"] ["poly", "x"] (kwP 0 2 [0, 1]) (kwP 0 2 [0, 1]) := kbP T.F_value_at (by decide) fun _ _ _ _ _ _ us ws h1 h2 => match us, ws, h1, h2 with | [], [_, _], _, _ => rfl
end Pf

namespace Pf
open PySem L2 Dl Sh
open Evl (Ex)
local macro_rules | `(tactic| walk_at "r0") => `(tactic| with_reducible first
  | refine sw_seq ?_
  | refine ew_var rfl ?_
  | refine ew_int ?_
  | refine ew_bl ?_
  | refine ew_non ?_
  | refine ew_str ?_
  | refine aw_cons ?_
  | refine aw_nil ?_
  | refine sw_par ?_
  | refine sw_next ?_
  | refine sw_if ?_
  | refine sw_ret ?_
  | refine tw_not ?_
  | refine tw_and ?_
  | refine tw_or ?_
  | refine tw_test ?_
  | refine tw_B ?_
  | refine tw_tru rfl ?_
  | refine ew_andV ?_
  | refine ew_orV ?_
  | refine ew_notV ?_
  | refine ew_if ?_
  | refine ew_chain ?_
  | refine ew_isN ?_
  | refine ew_tup ?_
  | refine ew_lst ?_
  | refine ew_isiD isN_int rfl ?_
  | refine ew_isiD isN_bool rfl ?_
  | refine ew_isiD isN_tuple rfl ?_
  | refine ew_isiD isN_list rfl ?_
  | refine ew_isiD isN_str rfl ?_
  | refine ew_isi2D isN_list isN_tuple rfl ?_
  | refine ew_isi2D isN_tuple isN_list rfl ?_
  | refine ew_cb ?_
  | refine ew_neg ?_
  | refine ew_op ?_
  | refine ⟨_, opv_int, ?_⟩
  | refine ⟨_, opv_cmp, ?_⟩
  | refine ⟨_, opv_eq, ?_⟩
  | refine ⟨_, opv_ne, ?_⟩
  | refine ⟨_, opv_eqB, ?_⟩
  | refine ⟨_, opv_eqS, ?_⟩
  | refine ⟨_, cbv_abs, ?_⟩
  | refine ⟨_, cbv_max2, ?_⟩
  | refine ⟨_, cbv_min2, ?_⟩
  | refine pw_none ?_
  | refine pw_some ?_
  | refine ⟨_, cbv_int, ?_⟩
  | refine ⟨_, rfl, ?_⟩
  | refine ⟨_, _, rfl, ?_⟩
  | refine ⟨_, _, _, rfl, ?_⟩
  | refine ⟨_, _, _, _, rfl, ?_⟩
  | refine br_t ?_
  | refine br_f ?_
  | refine ⟨dt_int, ?_⟩
  | refine ⟨dt_bl, ?_⟩
  | refine ⟨dt_str, ?_⟩
  | refine ⟨dt_non, ?_⟩
  | refine ⟨dt_tup, ?_⟩
  | refine ⟨dt_lst, ?_⟩
  | refine sw_asg ?_
  | refine sw_drop ?_)
local macro_rules | `(tactic| walk_at "r1") => `(tactic| first
  | ((with_reducible refine ew_tupL ?hK ?_); (case hK => rfl))
  | ((with_reducible refine ew_catT ?hK ?_); (case hK => rfl))
  | ((with_reducible refine ew_repT ?hK ?_); (case hK => rfl))
  | ((with_reducible refine ew_of_eb (eb_listL ?hK ?_)); (case hK => rfl))
  | ((with_reducible refine ew_of_eb (eb_cutL ?hK ?_)); (case hK => rfl))
  | walk_at "r0"
  | ((with_reducible refine ew_of_eb (eb_mapT ?hV ?hK ?_)); (case hK => rfl); (case hV => rfl))
  | ((with_reducible refine ew_of_eb (eb_mapL ?hV ?hK ?_)); (case hK => rfl); (case hV => rfl))
  | ((with_reducible refine ew_of_eb (eb_mapR ?hV ?_)); (case hV => rfl))
  | ((with_reducible refine ew_callP ?hK trivial ?_); (case hK => rfl))
  | ((with_reducible refine ew_callW ?hK trivial ?_); (case hK => rfl))
  | ((with_reducible refine ew_callH ?hK trivial ?_); (case hK => rfl))
  | ((with_reducible refine ew_callR ?hK ?hF ?_); (case hK => rfl); (case hF => assumption))
  | ((with_reducible refine len_ok ?hK ?_); (case hK => rfl))
  | ((with_reducible refine ew_notT ?hK ?_); (case hK => rfl))
  | ((with_reducible refine ew_cutT ?hK ?_); (case hK => rfl))
  | ((with_reducible refine ⟨(?hK : Dt _ _), ?_⟩); (case hK => assumption))
  | ((with_reducible refine sw_unp2 ?hK ?hn ?_); (case hK => rfl); (case hn => rfl)))
local macro_rules | `(tactic| walk_at "side") => `(tactic| first
  | exact Or.inr (by decide)
  | exact Or.inl (by decide)
  | exact ⟨by decide, by decide⟩
  | exact ⟨by decide, by decide, by decide⟩
  | decide
  | (dsimp only; decide)
  | exact mw (by assumption) (by assumption))
local macro_rules | `(tactic| walk_at "r2") => `(tactic| first
  | walk_at "r1"
  | ((with_reducible refine ⟨_, opv_intC ?hC, ?_⟩); (case hC => walk_at "side"))
  | ((with_reducible refine ⟨_, cbv_lenL ?hK, ?_⟩); (case hK => rfl))
  | ((with_reducible refine ⟨_, cbv_allM ?hK, ?_⟩); (case hK => rfl))
  | ((with_reducible refine ⟨_, cbv_anyM ?hK, ?_⟩); (case hK => rfl))
  | ((with_reducible refine ⟨_, cbv_sumM ?hK, ?_⟩); (case hK => rfl))
  | ((with_reducible refine ⟨_, cbv_lenT ?hK, ?_⟩); (case hK => rfl))
  | (with_reducible refine ⟨_, opv_ixT (by with_unfolding_all rfl) (by with_unfolding_all rfl), ?_⟩)
  | refine br_t ?_
  | refine br_f ?_)
local macro_rules | `(tactic| walk_at "rd") => `(tactic| repeat (walk_at "r2"))
local macro_rules | `(tactic| walk_at "rs") => `(tactic| repeat ((fail_if_success (with_reducible refine sw_isif ?_)); walk_at "r2"))
local macro_rules | `(tactic| walk_at "nf") => `(tactic| (try simp only [List.set_cons_zero, List.set_cons_succ, Dl.sets, Dl.asD]))
local macro_rules | `(tactic| walk_at "ru") => `(tactic| repeat ((fail_if_success (with_reducible refine sw_seq ?_)); walk_at "r2"))

abbrev c_is_integer : Cn := fun K w ds Ψ Ξ => ∃ d, ds = [d] ∧ Dt K d ∧ Ψ (.fz (.bl (isIntD d)))
theorem l_is_integer : ∀ K w ds Ψ Ξ, c_is_integer K w ds Ψ Ξ → ds.length = 1 := fun K w ds Ψ Ξ h => by
  obtain ⟨_, rfl, _⟩ := h
  rfl
theorem ok_is_integer {P : Program} {w : World} {K : PySem.W.Frag} {mg : Str → Option Value} {base : Heap} {A : Ad} (T : Txt K mg A) : FnOk P w K mg base CX0 1 A.is_integer A.fd_is_integer ["value"] (SpD K AnyR c_is_integer) := by
  refine Fun.ok T.F_is_integer sc_is_integer (fun vs H Q E h => spd_len (l_is_integer) h) (fun cdv A' outer s H vs Q E hr h => ⟨_, (pss_one (ps_ret (pe_and (pe_callB call_isi (by rfl) T.b_isinstance (by decide +kernel) (pa_cons (pv 0) (pa_cons (pe_bltn (v := .ty "int") (by rfl) T.b_int (by decide +kernel) rfl) pa_nil))) (pe_one (pe_not (pe_callB call_isi (by rfl) T.b_isinstance (by decide +kernel) (pa_cons (pv 0) (pa_cons (pe_bltn (v := .ty "bool") (by rfl) T.b_bool (by decide +kernel) rfl) pa_nil)))))))), ?_⟩)
  refine body_ok 1 (by decide) (l_is_integer) h (fun Γ ds Ψ Ξ hK hX hF hc ke => ?_)
  subst hK
  obtain ⟨d, rfl, hd, hc⟩ := hc
  walk_at "rd"
  refine ⟨fun h1 => ?_, fun h1 => ?_⟩
  · walk_at "rd"
    have e : (!isBlD d) = isIntD d := by cases d <;> first | rfl | cases h1
    rw [e]
    exact hc
  · have e : false = isIntD d := by cases d <;> first | rfl | cases h1
    rw [e]
    exact hc
abbrev c_is_sequence : Cn := fun K w ds Ψ Ξ => ∃ d, ds = [d] ∧ Dt K d ∧ Ψ (.fz (.bl (isLstD d || isTupD d)))
theorem l_is_sequence : ∀ K w ds Ψ Ξ, c_is_sequence K w ds Ψ Ξ → ds.length = 1 := fun K w ds Ψ Ξ h => by
  obtain ⟨_, rfl, _⟩ := h
  rfl
theorem ok_is_sequence {P : Program} {w : World} {K : PySem.W.Frag} {mg : Str → Option Value} {base : Heap} {A : Ad} (T : Txt K mg A) : FnOk P w K mg base CX0 1 A.is_sequence A.fd_is_sequence ["value"] (SpD K AnyR c_is_sequence) := by
  refine Fun.ok T.F_is_sequence sc_is_sequence (fun vs H Q E h => spd_len (l_is_sequence) h) (fun cdv A' outer s H vs Q E hr h => ⟨_, (pss_one (ps_ret (pe_callB call_isiT (by rfl) T.b_isinstance (by decide +kernel) (pa_cons (pv 0) (pa_cons (pe_tup (pa_cons (pe_bltn (v := .ty "list") (by rfl) T.b_list (by decide +kernel) rfl) (pa_cons (pe_bltn (v := .ty "tuple") (by rfl) T.b_tuple (by decide +kernel) rfl) pa_nil))) pa_nil))))), ?_⟩)
  refine body_ok 1 (by decide) (l_is_sequence) h (fun Γ ds Ψ Ξ hK hX hF hc ke => ?_)
  subst hK
  obtain ⟨d, rfl, hd, hc⟩ := hc
  walk_at "rd"
  exact hc
def isPairD : D → Bool | .tup ds => decide (ds.length = 2) | _ => false
abbrev c_is_pair : Cn := fun K w ds Ψ Ξ => ∃ d, ds = [d] ∧ Dt K d ∧ Ψ (.fz (.bl (isPairD d)))
theorem l_is_pair : ∀ K w ds Ψ Ξ, c_is_pair K w ds Ψ Ξ → ds.length = 1 := fun K w ds Ψ Ξ h => by
  obtain ⟨_, rfl, _⟩ := h
  rfl
theorem ok_is_pair {P : Program} {w : World} {K : PySem.W.Frag} {mg : Str → Option Value} {base : Heap} {A : Ad} (T : Txt K mg A) : FnOk P w K mg base CX0 1 A.is_pair A.fd_is_pair ["value"] (SpD K AnyR c_is_pair) := by
  refine Fun.ok T.F_is_pair sc_is_pair (fun vs H Q E h => spd_len (l_is_pair) h) (fun cdv A' outer s H vs Q E hr h => ⟨_, (pss_one (ps_ret (pe_and (pe_callB call_isi (by rfl) T.b_isinstance (by decide +kernel) (pa_cons (pv 0) (pa_cons (pe_bltn (v := .ty "tuple") (by rfl) T.b_tuple (by decide +kernel) rfl) pa_nil))) (pe_one (pe_cmpR op_eq (pe_callB call_len_seq (by rfl) T.b_len (by decide +kernel) (pa_cons (pv 0) pa_nil)) pe_int (nomark _)))))), ?_⟩)
  refine body_ok 1 (by decide) (l_is_pair) h (fun Γ ds Ψ Ξ hK hX hF hc ke => ?_)
  subst hK
  obtain ⟨d, rfl, hd, hc⟩ := hc
  walk_at "rd"
  refine ⟨fun h1 => ?_, fun h1 => ?_⟩
  · cases d <;> first | (cases h1; done) | skip
    rename_i ds
    walk_at "rd"
    have e : decide ((ds.length : Int) = 2) = isPairD (.tup ds) := by
      show _ = decide (ds.length = 2)
      by_cases h : ds.length = 2
      · rw [h]; rfl
      · rw [decide_eq_false h, decide_eq_false (by omega)]
    rw [e]
    exact hc
  · have e : false = isPairD d := by cases d <;> first | rfl | cases h1
    rw [e]
    exact hc
/-- data of which, if a tuple, isinstance tells of each member -/
def Dt1 (K : PySem.W.Frag) (d : D) : Prop := Dt K d ∧ ∀ xs, d = .tup xs → xs.length ≤ 99999 ∧ ∀ x ∈ xs, Dt K x
theorem not_tt {b : Bool} (h : (!b) = true) : b = false := by cases b <;> first | rfl | cases h
theorem not_ff {b : Bool} (h : (!b) = false) : b = true := by cases b <;> first | rfl | cases h
theorem all_map {xs : List D} {f : D → Bool} : (xs.map f).all id = xs.all f := by rw [List.all_map]; rfl
theorem int_of {d : D} (h : isIntD d = true) : ∃ i, d = .int i := by cases d <;> first | (cases h; done) | exact ⟨_, rfl⟩
def areIntsD : D → Bool | .tup xs => xs.all isIntD | _ => false
abbrev c_are_integers : Cn := fun K w ds Ψ Ξ => ∃ d, ds = [d] ∧ Dt1 K d ∧ Ψ (.fz (.bl (areIntsD d)))
theorem l_are_integers : ∀ K w ds Ψ Ξ, c_are_integers K w ds Ψ Ξ → ds.length = 1 := fun K w ds Ψ Ξ h => by
  obtain ⟨_, rfl, _⟩ := h
  rfl
theorem ok_are_integers {P : Program} {w : World} {K : PySem.W.Frag} {mg : Str → Option Value} {base : Heap} {A : Ad} (T : Txt K mg A) : FnOk P w K mg base CX0 2 A.are_integers A.fd_are_integers ["value"] (SpD K AnyR c_are_integers) := by
  refine Fun.ok T.F_are_integers sc_are_integers (fun vs H Q E h => spd_len (l_are_integers) h) (fun cdv A' outer s H vs Q E hr h => ⟨_, (pss_one (ps_ret (pe_and (pe_callB call_isi (by rfl) T.b_isinstance (by decide +kernel) (pa_cons (pv 0) (pa_cons (pe_bltn (v := .ty "tuple") (by rfl) T.b_tuple (by decide +kernel) rfl) pa_nil))) (pe_one (pe_callB (cr_all rfl) (by rfl) T.b_all (by decide +kernel) (pa_cons (pe_lc (own := [("one", 1)]) (by rfl) sc_are_integers.nd (pi_tup (pv 0)) (blkOk_by (own := [("one", 1)]) (N := ["value", "one"]) (sc := defScope s_are_integers) (by decide +kernel)) (fun _ _ _ _ _ => (pg_name (i := 1) sc_are_integers.nd rfl (.inl rfl))) (fun _ _ _ _ _ => pts_nil) (fun _ _ _ _ _ => (pe_call (ok_is_integer T) (hr.mono (by decide)) (by rfl) T.m_is_integer T.F_is_integer.kp (b_is_integer T) .nil pass0 (pa_cons (pv 1) pa_nil)))) pa_nil)))))), ?_⟩)
  refine body_ok 1 (by decide) (l_are_integers) h (fun Γ ds Ψ Ξ hK hX hF hc ke => ?_)
  subst hK
  obtain ⟨d, rfl, ⟨hd, hx⟩, hc⟩ := hc
  walk_at "rd"
  refine ⟨fun h1 => ?_, fun h1 => ?_⟩
  · cases d <;> first | (cases h1; done) | skip
    rename_i xs
    obtain ⟨hl, hx⟩ := hx xs rfl
    walk_at "rd"
    refine ⟨(fun es z => by cases z), hl, fun x => .bl (isIntD x), fun x hx' c => ?_, ?_⟩
    · have hd' := hx x hx'
      walk_at "rd"
      exact ⟨rfl, rfl⟩
    · walk_at "rd"
      exact hc
  · have e : false = areIntsD d := by cases d <;> first | rfl | cases h1
    rw [e]
    exact hc
theorem areInts_of {d : D} (h : areIntsD d = true) : ∃ row : List Int, d = .tup (row.map D.int) := by
  cases d <;> first | (cases h; done) | skip
  rename_i xs
  refine ⟨xs.map (fun x => match x with | .int i => i | _ => 0), ?_⟩
  congr 1
  rw [List.map_map]
  conv => lhs; rw [← List.map_id xs]
  apply List.map_congr_left
  intro x hx
  have := List.all_eq_true.mp h x hx
  cases x <;> first | (cases this; done) | rfl
theorem areInts_row {row : List Int} : areIntsD (.tup (row.map D.int)) = true := by
  show (row.map D.int).all isIntD = true
  rw [List.all_map]
  exact List.all_eq_true.mpr fun _ _ => rfl
def frzD : Nat → D → D
  | n + 1, .tup ds => .tup (ds.map (frzD n))
  | n + 1, .lst ds => .tup (ds.map (frzD n))
  | _, d => d
/-- data that frozen takes, lists and tuples at most n deep -/
inductive FzD (K : PySem.W.Frag) : Nat → D → Prop
  | one (n : Nat) (d : D) (h : Dt K d) (h1 : isLstD d = false) (h2 : isTupD d = false) : FzD K n d
  | tup (n : Nat) (ds : List D) (h : ∀ d ∈ ds, FzD K n d) (hl : ds.length ≤ 99999) : FzD K (n + 1) (.tup ds)
  | lst (n : Nat) (ds : List D) (h : ∀ d ∈ ds, FzD K n d) (hl : ds.length ≤ 99999) : FzD K (n + 1) (.lst ds)
theorem frz_one {n : Nat} {d : D} (h1 : isLstD d = false) (h2 : isTupD d = false) : frzD n d = d := by cases n <;> cases d <;> first | rfl | (cases h1; done) | (cases h2; done)
abbrev c_frzA (n : Nat) : Cn := fun K w ds Ψ Ξ => ∃ d, ds = [d] ∧ isLstD d = false ∧ FzD K n d ∧ Ψ (.fz (frzD n d))
abbrev c_frzB (n : Nat) : Cn := fun K w ds Ψ Ξ => ∃ xs, ds = [.lst xs] ∧ FzD K n (.lst xs) ∧ Ψ (.fz (frzD n (.lst xs)))
abbrev c_frz (n : Nat) : Cn := COr (c_frzA n) (c_frzB n)
theorem frz_in {K : PySem.W.Frag} {n : Nat} {w : Addr} {d : D} {Ψ : B → Prop} {Ξ : Addr → Str → D → Prop} (h : FzD K n d) (p : Ψ (.fz (frzD n d))) : c_frz n K w [d] Ψ Ξ := by
  cases d with
  | lst xs => exact .inr ⟨xs, rfl, h, p⟩
  | _ => exact .inl ⟨_, rfl, rfl, h, p⟩
theorem l_frzA (n : Nat) : ∀ K w ds Ψ Ξ, c_frzA n K w ds Ψ Ξ → ds.length = 1 := fun K w ds Ψ Ξ h => by
  obtain ⟨_, rfl, _⟩ := h
  rfl
theorem l_frzB (n : Nat) : ∀ K w ds Ψ Ξ, c_frzB n K w ds Ψ Ξ → ds.length = 1 := fun K w ds Ψ Ξ h => by
  obtain ⟨_, rfl, _⟩ := h
  rfl
theorem l_frz (n : Nat) : ∀ K w ds Ψ Ξ, c_frz n K w ds Ψ Ξ → ds.length = 1 := fun K w ds Ψ Ξ h => h.elim (l_frzA n K w ds Ψ Ξ) (l_frzB n K w ds Ψ Ξ)
theorem frz_step {P : Program} {w : World} {K : PySem.W.Frag} {mg : Str → Option Value} {base : Heap} {A : Ad} (T : Txt K mg A) {n k : Nat} (hk : 1 ≤ k) {sp : Sp} (G : FnOk P w K mg base CX0 k A.frozen A.fd_frozen ["value"] sp) (hsp : ∀ m, n = m + 1 → sp = SpD K AnyR (c_frz m)) :
    FnOk P w K mg base CX0 (k + 1) A.frozen A.fd_frozen ["value"] (SpD K AnyR (c_frz n)) := by
  refine T.F_frozen.ok sc_frozen (fun vs H Q E h => spd_len (l_frz n) h) (fun cdv A' outer s H vs Q E hr h => ?_)
  rcases spd_or h with h | h
  · refine ⟨_,
(pss_cons (ps_if (pt_val (pe_call (ok_is_sequence T) (hr.mono hk) (by rfl) T.m_is_sequence T.F_is_sequence.kp (b_is_sequence T) .nil pass0 (pa_cons (pv 0) pa_nil))) (pss_one (ps_ret (pe_callTy call_tuple_of (by rfl) T.b_tuple (by decide +kernel) (pa_cons (pe_lc (own := [("one", 1)]) (by rfl) sc_frozen.nd (pi_tup (pv 0)) (blkOk_by (own := [("one", 1)]) (N := ["value", "one"]) (sc := defScope s_frozen) (by decide +kernel)) (fun _ _ _ _ _ => (pg_name (i := 1) sc_frozen.nd rfl (.inl rfl))) (fun _ _ _ _ _ => pts_nil) (fun _ _ _ _ _ => (pe_call (G) hr (by rfl) T.m_frozen T.F_frozen.kp (b_frozen T) .nil pass0 (pa_cons (pv 1) pa_nil)))) pa_nil)))) pss_nil)
        (pss_one (ps_ret (pv 0))))
      , ?_⟩
    refine body_ok 1 (by decide) (l_frzA n) h (fun Γ ds Ψ Ξ hK hX hF hc ke => ?_)
    subst hK
    obtain ⟨d, rfl, hno, hd, hc⟩ := hc
    cases hd with
    | one _ _ h h1 h2 =>
      walk_at "rd"
      rw [h1, h2]
      rw [frz_one h1 h2] at hc
      walk_at "rd"
      exact hc
    | tup n ds hs hl =>
      have esp := hsp n rfl
      subst esp
      walk_at "rd"
      refine ⟨(fun es z => by cases z), hl, frzD n, fun x hx' c => ?_, ?_⟩
      · walk_at "rd"
        exact frz_in (hs x hx') ⟨rfl, rfl⟩
      · exact ⟨_, rfl, hc⟩
    | lst n ds hs hl => cases hno
  · refine ⟨_,
(pss_cons (ps_if (pt_val (pe_call (ok_is_sequence T) (hr.mono hk) (by rfl) T.m_is_sequence T.F_is_sequence.kp (b_is_sequence T) .nil pass0 (pa_cons (pv 0) pa_nil))) (pss_one (ps_ret (pe_callTy call_tuple_of (by rfl) T.b_tuple (by decide +kernel) (pa_cons (pe_lc (own := [("one", 1)]) (by rfl) sc_frozen.nd (pi_list (pv 0)) (blkOk_by (own := [("one", 1)]) (N := ["value", "one"]) (sc := defScope s_frozen) (by decide +kernel)) (fun _ _ _ _ _ => (pg_name (i := 1) sc_frozen.nd rfl (.inl rfl))) (fun _ _ _ _ _ => pts_nil) (fun _ _ _ _ _ => (pe_call (G) hr (by rfl) T.m_frozen T.F_frozen.kp (b_frozen T) .nil pass0 (pa_cons (pv 1) pa_nil)))) pa_nil)))) pss_nil)
        (pss_one (ps_ret (pv 0))))
      , ?_⟩
    refine body_ok 1 (by decide) (l_frzB n) h (fun Γ ds Ψ Ξ hK hX hF hc ke => ?_)
    subst hK
    obtain ⟨d, rfl, hd, hc⟩ := hc
    cases hd with
    | one _ _ h h1 h2 => cases h1
    | lst n ds hs hl =>
      have esp := hsp n rfl
      subst esp
      walk_at "rd"
      refine ⟨(fun es z => by cases z), hl, frzD n, fun x hx' c => ?_, ?_⟩
      · walk_at "rd"
        exact frz_in (hs x hx') ⟨rfl, rfl⟩
      · exact ⟨_, rfl, hc⟩
theorem ok_frz {P : Program} {w : World} {K : PySem.W.Frag} {mg : Str → Option Value} {base : Heap} {A : Ad} (T : Txt K mg A) : ∀ n, FnOk P w K mg base CX0 (n + 2) A.frozen A.fd_frozen ["value"] (SpD K AnyR (c_frz n))
  | 0 => frz_step T (k := 1) (Nat.le_refl _) (T.F_frozen.ok sc_frozen (k := 0) (sp := fun _ _ _ _ => False) (fun _ _ _ _ h => h.elim) (fun _ _ _ _ _ _ _ _ _ h => h.elim)) (fun _ e => by cases e)
  | n + 1 => frz_step T (by omega) (ok_frz T n) (fun m e => by cases e; rfl)
end Pf

namespace Pf
open PySem L2 Dl Sh
open Evl (Ex)
local macro_rules | `(tactic| walk_at "r0") => `(tactic| with_reducible first
  | refine sw_seq ?_
  | refine ew_var rfl ?_
  | refine ew_int ?_
  | refine ew_bl ?_
  | refine ew_non ?_
  | refine ew_str ?_
  | refine aw_cons ?_
  | refine aw_nil ?_
  | refine sw_par ?_
  | refine sw_next ?_
  | refine sw_if ?_
  | refine sw_ret ?_
  | refine tw_not ?_
  | refine tw_and ?_
  | refine tw_or ?_
  | refine tw_test ?_
  | refine tw_B ?_
  | refine tw_tru rfl ?_
  | refine ew_andV ?_
  | refine ew_orV ?_
  | refine ew_notV ?_
  | refine ew_if ?_
  | refine ew_chain ?_
  | refine ew_isN ?_
  | refine ew_tup ?_
  | refine ew_lst ?_
  | refine ew_isiD isN_int rfl ?_
  | refine ew_isiD isN_bool rfl ?_
  | refine ew_isiD isN_tuple rfl ?_
  | refine ew_isiD isN_list rfl ?_
  | refine ew_isiD isN_str rfl ?_
  | refine ew_isi2D isN_list isN_tuple rfl ?_
  | refine ew_isi2D isN_tuple isN_list rfl ?_
  | refine ew_cb ?_
  | refine ew_neg ?_
  | refine ew_op ?_
  | refine ⟨_, opv_int, ?_⟩
  | refine ⟨_, opv_cmp, ?_⟩
  | refine ⟨_, opv_eq, ?_⟩
  | refine ⟨_, opv_ne, ?_⟩
  | refine ⟨_, opv_eqB, ?_⟩
  | refine ⟨_, opv_eqS, ?_⟩
  | refine ⟨_, cbv_abs, ?_⟩
  | refine ⟨_, cbv_max2, ?_⟩
  | refine ⟨_, cbv_min2, ?_⟩
  | refine pw_none ?_
  | refine pw_some ?_
  | refine ⟨_, cbv_int, ?_⟩
  | refine ⟨_, rfl, ?_⟩
  | refine ⟨_, _, rfl, ?_⟩
  | refine ⟨_, _, _, rfl, ?_⟩
  | refine ⟨_, _, _, _, rfl, ?_⟩
  | refine br_t ?_
  | refine br_f ?_
  | refine ⟨dt_int, ?_⟩
  | refine ⟨dt_bl, ?_⟩
  | refine ⟨dt_str, ?_⟩
  | refine ⟨dt_non, ?_⟩
  | refine ⟨dt_tup, ?_⟩
  | refine ⟨dt_lst, ?_⟩
  | refine sw_asg ?_
  | refine sw_drop ?_)
local macro_rules | `(tactic| walk_at "r1") => `(tactic| first
  | ((with_reducible refine ew_tupL ?hK ?_); (case hK => rfl))
  | ((with_reducible refine ew_catT ?hK ?_); (case hK => rfl))
  | ((with_reducible refine ew_repT ?hK ?_); (case hK => rfl))
  | ((with_reducible refine ew_of_eb (eb_listL ?hK ?_)); (case hK => rfl))
  | ((with_reducible refine ew_of_eb (eb_cutL ?hK ?_)); (case hK => rfl))
  | walk_at "r0"
  | ((with_reducible refine ew_of_eb (eb_mapT ?hV ?hK ?_)); (case hK => rfl); (case hV => rfl))
  | ((with_reducible refine ew_of_eb (eb_mapL ?hV ?hK ?_)); (case hK => rfl); (case hV => rfl))
  | ((with_reducible refine ew_of_eb (eb_mapR ?hV ?_)); (case hV => rfl))
  | ((with_reducible refine ew_callP ?hK trivial ?_); (case hK => rfl))
  | ((with_reducible refine ew_callW ?hK trivial ?_); (case hK => rfl))
  | ((with_reducible refine ew_callH ?hK trivial ?_); (case hK => rfl))
  | ((with_reducible refine ew_callR ?hK ?hF ?_); (case hK => rfl); (case hF => assumption))
  | ((with_reducible refine len_ok ?hK ?_); (case hK => rfl))
  | ((with_reducible refine ew_notT ?hK ?_); (case hK => rfl))
  | ((with_reducible refine ew_cutT ?hK ?_); (case hK => rfl))
  | ((with_reducible refine ⟨(?hK : Dt _ _), ?_⟩); (case hK => assumption))
  | ((with_reducible refine sw_unp2 ?hK ?hn ?_); (case hK => rfl); (case hn => rfl)))
local macro_rules | `(tactic| walk_at "side") => `(tactic| first
  | exact Or.inr (by decide)
  | exact Or.inl (by decide)
  | exact ⟨by decide, by decide⟩
  | exact ⟨by decide, by decide, by decide⟩
  | decide
  | (dsimp only; decide)
  | exact mw (by assumption) (by assumption))
local macro_rules | `(tactic| walk_at "r2") => `(tactic| first
  | walk_at "r1"
  | ((with_reducible refine ⟨_, opv_intC ?hC, ?_⟩); (case hC => walk_at "side"))
  | ((with_reducible refine ⟨_, cbv_lenL ?hK, ?_⟩); (case hK => rfl))
  | ((with_reducible refine ⟨_, cbv_allM ?hK, ?_⟩); (case hK => rfl))
  | ((with_reducible refine ⟨_, cbv_anyM ?hK, ?_⟩); (case hK => rfl))
  | ((with_reducible refine ⟨_, cbv_sumM ?hK, ?_⟩); (case hK => rfl))
  | ((with_reducible refine ⟨_, cbv_lenT ?hK, ?_⟩); (case hK => rfl))
  | (with_reducible refine ⟨_, opv_ixT (by with_unfolding_all rfl) (by with_unfolding_all rfl), ?_⟩)
  | refine br_t ?_
  | refine br_f ?_)
local macro_rules | `(tactic| walk_at "rd") => `(tactic| repeat (walk_at "r2"))
local macro_rules | `(tactic| walk_at "rs") => `(tactic| repeat ((fail_if_success (with_reducible refine sw_isif ?_)); walk_at "r2"))
local macro_rules | `(tactic| walk_at "nf") => `(tactic| (try simp only [List.set_cons_zero, List.set_cons_succ, Dl.sets, Dl.asD]))
local macro_rules | `(tactic| walk_at "ru") => `(tactic| repeat ((fail_if_success (with_reducible refine sw_seq ?_)); walk_at "r2"))

abbrev c_common_divisor : Cn := fun K w ds Ψ Ξ => ∃ a b : Int, ds = [.int a, .int b] ∧ Ψ (.fz (.int (gi a b)))
theorem abs_if (a : Int) : (if a < 0 then -a else a) = (a.natAbs : Int) := by split <;> omega
theorem l_common_divisor : ∀ K w ds Ψ Ξ, c_common_divisor K w ds Ψ Ξ → ds.length = 2 := fun K w ds Ψ Ξ h => by
  obtain ⟨_, _, rfl, _⟩ := h
  rfl
theorem ok_common_divisor {P : Program} {w : World} {K : PySem.W.Frag} {mg : Str → Option Value} {base : Heap} {A : Ad} (T : Txt K mg A) : FnOk P w K mg base CX0 1 A.common_divisor A.fd_common_divisor ["a", "b"] (SpD K AnyR c_common_divisor) := by
  refine Fun.ok T.F_common_divisor sc_common_divisor (fun vs H Q E h => spd_len (l_common_divisor) h) (fun cdv A' outer s H vs Q E hr h => ⟨_, (pss_cons (ps_par (i := 0) (j := 1) (by rfl) sc_common_divisor.nd rfl rfl (by decide) rfl rfl (pa_cons (pe_callB call_abs (by rfl) T.b_abs (by decide +kernel) (pa_cons (pv 0) pa_nil)) (pa_cons (pe_callB call_abs (by rfl) T.b_abs (by decide +kernel) (pa_cons (pv 1) pa_nil)) pa_nil)) (by rfl))
        (pss_cons (ps_while PassesOwn.never (pt_truth (pv 1) (by intro _; rfl)) (pss_one (ps_par (i := 0) (j := 1) (by rfl) sc_common_divisor.nd rfl rfl (by decide) rfl rfl (pa_cons (pv 1) (pa_cons (pe_op op_mod (pv 0) (pv 1)) pa_nil)) (by rfl))))
        (pss_one (ps_ret (pv 0))))), ?_⟩)
  refine body_ok 2 (by decide) (l_common_divisor) h (fun Γ ds Ψ Ξ hK hX hF hc ke => ?_)
  subst hK
  obtain ⟨a, b, rfl, hc⟩ := hc
  walk_at "rd"
  refine sw_while (fun m ρ => ∃ x y : Int, ρ = [some (.fz (.int x)), some (.fz (.int y))] ∧ 0 ≤ x ∧ 0 ≤ y ∧ gi x y = gi a b ∧ m = y.toNat) _ ⟨_, _, rfl, ?_, ?_, ?_, rfl⟩ ?_
  · rw [abs_if]; omega
  · rw [abs_if]; omega
  · rw [abs_if, abs_if, gi_abs]
  · rintro m ρ' ⟨x, y, rfl, hx, hy, hg, rfl⟩
    walk_at "rd"
    refine ⟨fun h1 => ?_, fun h1 => ?_⟩
    · have hy0 : 0 < y := by
        have : y ≠ 0 := by simpa using h1
        omega
      walk_at "rd"
      refine ⟨_, opv_intC hy0, ?_⟩
      walk_at "rd"
      refine ⟨_, ?_, y, x % y, rfl, hy, Int.emod_nonneg _ (by omega), by rw [gi_mod hx hy0]; exact hg, rfl⟩
      have := Int.emod_lt_of_pos x hy0
      have := Int.emod_nonneg x (show y ≠ 0 by omega)
      omega
    · have hy0 : y = 0 := by simpa using h1
      subst hy0
      rw [gi_zero hx] at hg
      subst hg
      walk_at "rd"
      exact hc
/-- data of which, if a pair, isinstance tells of both -/
def Dt2 (K : PySem.W.Frag) (d : D) : Prop := Dt K d ∧ ∀ x y, d = .tup [x, y] → Dt K x ∧ Dt K y
theorem dt2_ints {K : PySem.W.Frag} {i j : Int} : Dt2 K (.tup [.int i, .int j]) := ⟨dt_tup, fun x y h => by cases h; exact ⟨dt_int, dt_int⟩⟩
theorem pair_of {d : D} (h : isPairD d = true) : ∃ x y, d = .tup [x, y] := by
  cases d <;> first | (cases h; done) | skip
  rename_i ds
  match ds, of_decide_eq_true (show decide (ds.length = 2) = true from h) with
  | [x, y], _ => exact ⟨x, y, rfl⟩
def isShD : D → Bool | .tup [.int a, .int b] => decide (0 < b) && decide (gi a b = 1) | _ => false
theorem isSh_len : ∀ {ds : List D}, ds.length ≠ 2 → isShD (.tup ds) = false
  | [], _ => rfl
  | [x], _ => by cases x <;> rfl
  | [_, _], h => absurd rfl h
  | x :: y :: _ :: _, _ => by cases x <;> first | rfl | (cases y <;> rfl)
abbrev c_is_share : Cn := fun K w ds Ψ Ξ => ∃ d, ds = [d] ∧ Dt2 K d ∧ Ψ (.fz (.bl (isShD d)))
theorem sh_no {d : D} (h : isPairD d = false) : isShD d = false := by
  cases d <;> first | rfl | skip
  rename_i ds
  refine isSh_len fun z => ?_
  have h2 : isPairD (.tup ds) = true := decide_eq_true z
  rw [h2] at h
  cases h
theorem l_is_share : ∀ K w ds Ψ Ξ, c_is_share K w ds Ψ Ξ → ds.length = 1 := fun K w ds Ψ Ξ h => by
  obtain ⟨_, rfl, _⟩ := h
  rfl
theorem ok_is_share {P : Program} {w : World} {K : PySem.W.Frag} {mg : Str → Option Value} {base : Heap} {A : Ad} (T : Txt K mg A) : FnOk P w K mg base CX0 2 A.is_share A.fd_is_share ["value"] (SpD K AnyR c_is_share) := by
  refine Fun.ok T.F_is_share sc_is_share (fun vs H Q E h => spd_len (l_is_share) h) (fun cdv A' outer s H vs Q E hr h => ⟨_, (pss_cons (ps_if (pt_not (pt_val (pe_call (ok_is_pair T) (hr.mono (by decide)) (by rfl) T.m_is_pair T.F_is_pair.kp (b_is_pair T) .nil pass0 (pa_cons (pv 0) pa_nil)))) (pss_one (ps_ret pe_bl)) pss_nil)
        (pss_cons (ps_asg (pv 0) (pg_tup (by rfl) (pgs_cons (pg_name (i := 1) sc_is_share.nd rfl (.inl rfl)) (pgs_cons (pg_name (i := 2) sc_is_share.nd rfl (.inl rfl)) pgs_nil))))
        (pss_cons (ps_if (PW.pt (pw_or (pt_not (pt_val (pe_call (ok_is_integer T) (hr.mono (by decide)) (by rfl) T.m_is_integer T.F_is_integer.kp (b_is_integer T) .nil pass0 (pa_cons (pv 1) pa_nil)))) (pw_or1 (pt_not (pt_val (pe_call (ok_is_integer T) (hr.mono (by decide)) (by rfl) T.m_is_integer T.F_is_integer.kp (b_is_integer T) .nil pass0 (pa_cons (pv 2) pa_nil))))))) (pss_one (ps_ret pe_bl)) pss_nil)
        (pss_one (ps_ret (pe_and (pe_cmpR op_gt (pv 2) pe_int (nomark _)) (pe_one (pe_cmpR op_eq (pe_call (ok_common_divisor T) (hr.mono (by decide)) (by rfl) T.m_common_divisor T.F_common_divisor.kp (b_common_divisor T) .nil pass0 (pa_cons (pv 1) (pa_cons (pv 2) pa_nil))) pe_int (nomark _))))))))), ?_⟩)
  refine body_ok 1 (by decide) (l_is_share) h (fun Γ ds Ψ Ξ hK hX hF hc ke => ?_)
  subst hK
  obtain ⟨d, rfl, ⟨ht, hk⟩, hc⟩ := hc
  walk_at "rd"
  refine ⟨fun h1 => ?_, fun h1 => ?_⟩
  · walk_at "rd"
    rw [sh_no (not_tt h1)] at hc
    exact hc
  · obtain ⟨x, y, rfl⟩ := pair_of (not_ff h1)
    obtain ⟨kx, ky⟩ := hk x y rfl
    walk_at "rd"
    refine ⟨fun h3 => ?_, fun h3 => ?_⟩
    · walk_at "rd"
      have e : false = isShD (.tup [x, y]) := by cases x <;> first | rfl | cases h3
      rw [e]
      exact hc
    · obtain ⟨a, rfl⟩ := int_of (not_ff h3)
      walk_at "rd"
      refine ⟨fun h4 => ?_, fun h4 => ?_⟩
      · walk_at "rd"
        have e : false = isShD (.tup [.int a, y]) := by cases y <;> first | rfl | cases h4
        rw [e]
        exact hc
      · obtain ⟨b, rfl⟩ := int_of (not_ff h4)
        walk_at "rd"
        refine ⟨fun h5 => ?_, fun h5 => ?_⟩
        · walk_at "rd"
          have e : decide (gi a b = 1) = isShD (.tup [.int a, .int b]) := by
            show _ = (decide (0 < b) && decide (gi a b = 1))
            rw [h5, Bool.true_and]
          rw [e]
          exact hc
        · have e : false = isShD (.tup [.int a, .int b]) := by
            show _ = (decide (0 < b) && decide (gi a b = 1))
            rw [h5, Bool.false_and]
          rw [e]
          exact hc
@[reducible] def shD (p : Int × Int) : D := .tup [.int p.1, .int p.2]
/-- a share or the integer that it is -/
inductive AsSh : D → Int × Int → Prop
  | sh (p : Int × Int) : AsSh (shD p) p
  | int (i : Int) : AsSh (.int i) (i, 1)
theorem AsSh.dt {K : PySem.W.Frag} {d : D} {p : Int × Int} (h : AsSh d p) : Dt K d := by
  cases h with
  | sh p => exact dt_tup
  | int i => exact dt_int
abbrev c_as_share : Cn := fun K w ds Ψ Ξ => ∃ d p, ds = [d] ∧ AsSh d p ∧ Ψ (.fz (shD p))
theorem l_as_share : ∀ K w ds Ψ Ξ, c_as_share K w ds Ψ Ξ → ds.length = 1 := fun K w ds Ψ Ξ h => by
  obtain ⟨_, _, rfl, _⟩ := h
  rfl
theorem ok_as_share {P : Program} {w : World} {K : PySem.W.Frag} {mg : Str → Option Value} {base : Heap} {A : Ad} (T : Txt K mg A) : FnOk P w K mg base CX0 2 A.as_share A.fd_as_share ["value"] (SpD K AnyR c_as_share) := by
  refine Fun.ok T.F_as_share sc_as_share (fun vs H Q E h => spd_len (l_as_share) h) (fun cdv A' outer s H vs Q E hr h => ⟨_, (pss_one (ps_ret (pe_ifExp (pt_val (pe_call (ok_is_integer T) (hr.mono (by decide)) (by rfl) T.m_is_integer T.F_is_integer.kp (b_is_integer T) .nil pass0 (pa_cons (pv 0) pa_nil))) (pe_tup (pa_cons (pv 0) (pa_cons pe_int pa_nil))) (pv 0)))), ?_⟩)
  refine body_ok 1 (by decide) (l_as_share) h (fun Γ ds Ψ Ξ hK hX hF hc ke => ?_)
  subst hK
  obtain ⟨d, p, rfl, ha, hc⟩ := hc
  have hd : Dt Γ.K d := ha.dt
  walk_at "rd"
  refine ⟨fun h1 => ?_, fun h1 => ?_⟩
  · cases ha with
    | sh p => cases h1
    | int i =>
      walk_at "rd"
      exact hc
  · cases ha with
    | sh p =>
      walk_at "rd"
      exact hc
    | int i => cases h1
abbrev c_reduced_pair : Cn := fun K w ds Ψ Ξ => ∃ a b : Int, ds = [.int a, .int b] ∧ b ≠ 0 ∧ b.natAbs < 2 ^ 8999 ∧ Ψ (.fz (shD (red a b)))
theorem fd_ex {a b : Int} {n : Nat} (h : b ≠ 0) (hb : b.natAbs < 2 ^ n) (hn : n ≤ 8999) : CFd a (gi a b) ∧ CFd b (gi a b) := by
  have h1 := gi_pos (a := a) h
  have h2 := gi_le (a := a) h
  exact ⟨cfd_of (by omega) (by omega) hn, cfd_of (by omega) (by omega) hn⟩
theorem l_reduced_pair : ∀ K w ds Ψ Ξ, c_reduced_pair K w ds Ψ Ξ → ds.length = 2 := fun K w ds Ψ Ξ h => by
  obtain ⟨_, _, rfl, _⟩ := h
  rfl
theorem ok_reduced_pair {P : Program} {w : World} {K : PySem.W.Frag} {mg : Str → Option Value} {base : Heap} {A : Ad} (T : Txt K mg A) : FnOk P w K mg base CX0 2 A.reduced_pair A.fd_reduced_pair ["a", "b"] (SpD K AnyR c_reduced_pair) := by
  refine Fun.ok T.F_reduced_pair sc_reduced_pair (fun vs H Q E h => spd_len (l_reduced_pair) h) (fun cdv A' outer s H vs Q E hr h => ⟨_, (pss_cons (ps_if (pt_cmpR op_lt (pv 1) pe_int (nomark _)) (pss_one (ps_par (i := 0) (j := 1) (by rfl) sc_reduced_pair.nd rfl rfl (by decide) rfl rfl (pa_cons (pe_un un_neg (pv 0)) (pa_cons (pe_un un_neg (pv 1)) pa_nil)) (by rfl))) pss_nil)
        (pss_cons (ps_set (i := 2) sc_reduced_pair.nd rfl (.inl rfl) (pe_call (ok_common_divisor T) (hr.mono (by decide)) (by rfl) T.m_common_divisor T.F_common_divisor.kp (b_common_divisor T) .nil pass0 (pa_cons (pv 0) (pa_cons (pv 1) pa_nil))))
        (pss_one (ps_ret (pe_tup (pa_cons (pe_op op_fdivG (pv 0) (pv 2)) (pa_cons (pe_op op_fdivG (pv 1) (pv 2)) pa_nil))))))), ?_⟩)
  refine body_ok 2 (by decide) (l_reduced_pair) h (fun Γ ds Ψ Ξ hK hX hF hc ke => ?_)
  subst hK
  obtain ⟨a, b, rfl, h0, hb, hc⟩ := hc
  refine sw_cut (fun ρ => ∃ x y : Int, ρ = [some (.fz (.int x)), some (.fz (.int y)), none] ∧ 0 < y ∧ y.natAbs < 2 ^ 8999 ∧ (x.fdiv (gi x y), y.fdiv (gi x y)) = red a b) ?_ ?_
  · walk_at "rd"
    refine ⟨fun h1 => ?_, fun h1 => ?_⟩
    · have hn : b < 0 := of_decide_eq_true h1
      walk_at "rd"
      refine ⟨by omega, by omega, ?_⟩
      rw [red_neg hn, Int.fdiv_eq_ediv_of_dvd (gi_l _ _), Int.fdiv_eq_ediv_of_dvd (gi_r _ _)]
    · have hn : ¬ b < 0 := of_decide_eq_false h1
      walk_at "rd"
      refine ⟨by omega, hb, ?_⟩
      rw [red_pos (by omega), Int.fdiv_eq_ediv_of_dvd (gi_l _ _), Int.fdiv_eq_ediv_of_dvd (gi_r _ _)]
  · rintro ρ ⟨x, y, rfl, hy, hyb, e⟩
    walk_at "rd"
    refine ⟨_, opv_intC (fd_ex (by omega) hyb (Nat.le_refl _)).1, ?_⟩
    walk_at "rd"
    refine ⟨_, opv_intC (fd_ex (by omega) hyb (Nat.le_refl _)).2, ?_⟩
    walk_at "rd"
    have e2 : shD (x.fdiv (gi x y), y.fdiv (gi x y)) = shD (red a b) := by rw [e]
    rw [← e2] at hc
    exact hc
abbrev Bd (p : Int × Int) : Prop := Sm 4400 p
theorem mw {i j : Int} (ha : i.natAbs < 2 ^ 4400) (hb : j.natAbs < 2 ^ 4400) : CMulW i j := wide_mul ha hb (by decide) (by decide) (by decide)
theorem mwb {i j : Int} (ha : i.natAbs < 2 ^ 4400) (hb : j.natAbs < 2 ^ 4400) : (i * j).natAbs < 2 ^ 8999 := sm_mono (mul_sm ha hb) (by decide)
theorem mul_nz {i j : Int} (h : i ≠ 0) (h' : j ≠ 0) : i * j ≠ 0 := Int.mul_ne_zero h h'
/-- shares handed in -/
structure ShIn (d : D) (p : Int × Int) : Prop where
  as : AsSh d p
  pos : 0 < p.2
  bd : Bd p
abbrev c_less : Cn := fun K w ds Ψ Ξ => ∃ x y p q, ds = [x, y] ∧ ShIn x p ∧ ShIn y q ∧ Ψ (.fz (shD (red (p.1 * q.2 - q.1 * p.2) (p.2 * q.2))))
theorem l_less : ∀ K w ds Ψ Ξ, c_less K w ds Ψ Ξ → ds.length = 2 := fun K w ds Ψ Ξ h => by
  obtain ⟨_, _, _, _, rfl, _⟩ := h
  rfl
theorem ok_less {P : Program} {w : World} {K : PySem.W.Frag} {mg : Str → Option Value} {base : Heap} {A : Ad} (T : Txt K mg A) : FnOk P w K mg base CX0 3 A.less A.fd_less ["one", "other"] (SpD K AnyR c_less) := by
  refine Fun.ok T.F_less sc_less (fun vs H Q E h => spd_len (l_less) h) (fun cdv A' outer s H vs Q E hr h => ⟨_, (pss_cons (ps_asg (pe_call (ok_as_share T) (hr.mono (by decide)) (by rfl) T.m_as_share T.F_as_share.kp (b_as_share T) .nil pass0 (pa_cons (pv 0) pa_nil)) (pg_tup (by rfl) (pgs_cons (pg_name (i := 2) sc_less.nd rfl (.inl rfl)) (pgs_cons (pg_name (i := 3) sc_less.nd rfl (.inl rfl)) pgs_nil))))
        (pss_cons (ps_asg (pe_call (ok_as_share T) (hr.mono (by decide)) (by rfl) T.m_as_share T.F_as_share.kp (b_as_share T) .nil pass0 (pa_cons (pv 1) pa_nil)) (pg_tup (by rfl) (pgs_cons (pg_name (i := 4) sc_less.nd rfl (.inl rfl)) (pgs_cons (pg_name (i := 5) sc_less.nd rfl (.inl rfl)) pgs_nil))))
        (pss_one (ps_ret (pe_call (ok_reduced_pair T) (hr.mono (by decide)) (by rfl) T.m_reduced_pair T.F_reduced_pair.kp (b_reduced_pair T) .nil pass0 (pa_cons (pe_op op_sub (pe_op op_mulW (pv 2) (pv 5)) (pe_op op_mulW (pv 4) (pv 3))) (pa_cons (pe_op op_mulW (pv 3) (pv 5)) pa_nil))))))), ?_⟩)
  refine body_ok 2 (by decide) (l_less) h (fun Γ ds Ψ Ξ hK hX hF hc ke => ?_)
  subst hK
  obtain ⟨x, y, p, q, rfl, hx, hy, hc⟩ := hc
  walk_at "rd"
  refine ⟨_, p, rfl, hx.as, ?_⟩
  walk_at "rd"
  refine ⟨_, q, rfl, hy.as, ?_⟩
  walk_at "rd"
  refine ⟨_, opv_intC (mw hx.bd.1 hy.bd.2), ?_⟩
  walk_at "rd"
  refine ⟨_, opv_intC (mw hy.bd.1 hx.bd.2), ?_⟩
  walk_at "rd"
  refine ⟨_, opv_intC (mw hx.bd.2 hy.bd.2), ?_⟩
  walk_at "rd"
  exact ⟨mul_nz (by have := hx.pos; omega) (by have := hy.pos; omega), mwb hx.bd.2 hy.bd.2, hc⟩
theorem ok_Undefined__init {P : Program} {w : World} {K : PySem.W.Frag} {mg : Str → Option Value} {base : Heap} {A : Ad} (T : Txt K mg A) : FnOk P w K mg base CX0 1 A.Undefined__init A.fd_Undefined__init ["self", "what"] (spInit K A.c_Undefined "what") := by
  refine T.F_Undefined__init.ok sc_Undefined__init (fun vs H Q E h => by obtain ⟨_, _, rfl, _⟩ := h; rfl) (fun cdv A' outer s H vs Q E hr h => ⟨_, (pss_one (ps_ost (pv 0) (pv 1))), body_init T.ox_Undefined T.no_Undefined_what rfl h⟩)
abbrev c_over (A : Ad) : Cn := fun K w ds Ψ Ξ => ∃ x y p q, ds = [x, y] ∧ ShIn x p ∧ ShIn y q ∧ (q.1 ≠ 0 → Ψ (.fz (shD (red (p.1 * q.2) (p.2 * q.1))))) ∧ (q.1 = 0 → Ξ A.c_Undefined "what" (.str "nought"))
theorem l_over (A : Ad) : ∀ K w ds Ψ Ξ, (c_over A) K w ds Ψ Ξ → ds.length = 2 := fun K w ds Ψ Ξ h => by
  obtain ⟨_, _, _, _, rfl, _⟩ := h
  rfl
theorem ok_over {P : Program} {w : World} {K : PySem.W.Frag} {mg : Str → Option Value} {base : Heap} {A : Ad} (T : Txt K mg A) : FnOk P w K mg base (L2N.CX P w) 3 A.over A.fd_over ["one", "other"] (SpD K AnyR (c_over A)) := by
  refine okN T.F_over sc_over (fun vs H Q E h => spd_len (l_over A) h) (fun cdv A' outer s H vs Q E hr h => ⟨_, (pss_cons (ps_asg (pe_call (ok_as_share T) (hr.mono (by decide)) (by rfl) T.m_as_share T.F_as_share.kp (b_as_share T) .nil pass0 (pa_cons (pv 0) pa_nil)) (pg_tup (by rfl) (pgs_cons (pg_name (i := 2) sc_over.nd rfl (.inl rfl)) (pgs_cons (pg_name (i := 3) sc_over.nd rfl (.inl rfl)) pgs_nil))))
        (pss_cons (ps_asg (pe_call (ok_as_share T) (hr.mono (by decide)) (by rfl) T.m_as_share T.F_as_share.kp (b_as_share T) .nil pass0 (pa_cons (pv 1) pa_nil)) (pg_tup (by rfl) (pgs_cons (pg_name (i := 4) sc_over.nd rfl (.inl rfl)) (pgs_cons (pg_name (i := 5) sc_over.nd rfl (.inl rfl)) pgs_nil))))
        (pss_cons (ps_if (pt_cmpR op_eq (pv 4) pe_int (nomark _)) (pss_one (L2N.ps_raise rfl (L2N.takes_of rfl rfl rfl rfl) (made_own T.ox_Undefined T.i_Undefined T.t_Undefined (ok_Undefined__init T) (hr.mono (by decide)) (b_Undefined__init T) (fun _ _ _ _ _ _ _ h => h.elim) (by rfl) T.m_Undefined (pa_cons pe_str pa_nil)))) pss_nil)
        (pss_one (ps_ret (pe_call (ok_reduced_pair T) (hr.mono (by decide)) (by rfl) T.m_reduced_pair T.F_reduced_pair.kp (b_reduced_pair T) .nil pass0 (pa_cons (pe_op op_mulW (pv 2) (pv 5)) (pa_cons (pe_op op_mulW (pv 3) (pv 4)) pa_nil)))))))), ?_⟩)
  refine body_ok 2 (by decide) (l_over A) h (fun Γ ds Ψ Ξ hK hX hF hc ke => ?_)
  subst hK
  obtain ⟨x, y, p, q, rfl, hx, hy, h1, h2⟩ := hc
  walk_at "rd"
  refine ⟨_, p, rfl, hx.as, ?_⟩
  walk_at "rd"
  refine ⟨_, q, rfl, hy.as, ?_⟩
  walk_at "rd"
  refine ⟨fun h3 => ?_, fun h3 => ?_⟩
  · refine sw_raiseE ke (fun _ _ _ _ x => x) ?_
    walk_at "rd"
    exact h2 (of_decide_eq_true h3)
  · have h4 : q.1 ≠ 0 := of_decide_eq_false h3
    walk_at "rd"
    refine ⟨_, opv_intC (mw hx.bd.1 hy.bd.2), ?_⟩
    walk_at "rd"
    refine ⟨_, opv_intC (mw hx.bd.2 hy.bd.1), ?_⟩
    walk_at "rd"
    exact ⟨mul_nz (by have := hx.pos; omega) h4, mwb hx.bd.2 hy.bd.1, h1 h4⟩
end Pf

namespace Pf
open PySem L2 Dl Sh
open Evl (Ex)
open Ry
local macro_rules | `(tactic| walk_at "r0") => `(tactic| with_reducible first
  | refine sw_seq ?_
  | refine ew_var rfl ?_
  | refine ew_int ?_
  | refine ew_bl ?_
  | refine ew_non ?_
  | refine ew_str ?_
  | refine aw_cons ?_
  | refine aw_nil ?_
  | refine sw_par ?_
  | refine sw_next ?_
  | refine sw_if ?_
  | refine sw_ret ?_
  | refine tw_not ?_
  | refine tw_and ?_
  | refine tw_or ?_
  | refine tw_test ?_
  | refine tw_B ?_
  | refine tw_tru rfl ?_
  | refine ew_andV ?_
  | refine ew_orV ?_
  | refine ew_notV ?_
  | refine ew_if ?_
  | refine ew_chain ?_
  | refine ew_isN ?_
  | refine ew_tup ?_
  | refine ew_lst ?_
  | refine ew_isiD isN_int rfl ?_
  | refine ew_isiD isN_bool rfl ?_
  | refine ew_isiD isN_tuple rfl ?_
  | refine ew_isiD isN_list rfl ?_
  | refine ew_isiD isN_str rfl ?_
  | refine ew_isi2D isN_list isN_tuple rfl ?_
  | refine ew_isi2D isN_tuple isN_list rfl ?_
  | refine ew_cb ?_
  | refine ew_neg ?_
  | refine ew_op ?_
  | refine ⟨_, opv_int, ?_⟩
  | refine ⟨_, opv_cmp, ?_⟩
  | refine ⟨_, opv_eq, ?_⟩
  | refine ⟨_, opv_ne, ?_⟩
  | refine ⟨_, opv_eqB, ?_⟩
  | refine ⟨_, opv_eqS, ?_⟩
  | refine ⟨_, cbv_abs, ?_⟩
  | refine ⟨_, cbv_max2, ?_⟩
  | refine ⟨_, cbv_min2, ?_⟩
  | refine pw_none ?_
  | refine pw_some ?_
  | refine ⟨_, cbv_int, ?_⟩
  | refine ⟨_, rfl, ?_⟩
  | refine ⟨_, _, rfl, ?_⟩
  | refine ⟨_, _, _, rfl, ?_⟩
  | refine ⟨_, _, _, _, rfl, ?_⟩
  | refine br_t ?_
  | refine br_f ?_
  | refine ⟨dt_int, ?_⟩
  | refine ⟨dt_bl, ?_⟩
  | refine ⟨dt_str, ?_⟩
  | refine ⟨dt_non, ?_⟩
  | refine ⟨dt_tup, ?_⟩
  | refine ⟨dt_lst, ?_⟩
  | refine sw_asg ?_
  | refine sw_drop ?_)
local macro_rules | `(tactic| walk_at "r1") => `(tactic| first
  | ((with_reducible refine ew_tupL ?hK ?_); (case hK => rfl))
  | ((with_reducible refine ew_catT ?hK ?_); (case hK => rfl))
  | ((with_reducible refine ew_repT ?hK ?_); (case hK => rfl))
  | ((with_reducible refine ew_of_eb (eb_listL ?hK ?_)); (case hK => rfl))
  | ((with_reducible refine ew_of_eb (eb_cutL ?hK ?_)); (case hK => rfl))
  | walk_at "r0"
  | ((with_reducible refine ew_of_eb (eb_mapT ?hV ?hK ?_)); (case hK => rfl); (case hV => rfl))
  | ((with_reducible refine ew_of_eb (eb_mapL ?hV ?hK ?_)); (case hK => rfl); (case hV => rfl))
  | ((with_reducible refine ew_of_eb (eb_mapR ?hV ?_)); (case hV => rfl))
  | ((with_reducible refine ew_callP ?hK trivial ?_); (case hK => rfl))
  | ((with_reducible refine ew_callW ?hK trivial ?_); (case hK => rfl))
  | ((with_reducible refine ew_callH ?hK trivial ?_); (case hK => rfl))
  | ((with_reducible refine ew_callR ?hK ?hF ?_); (case hK => rfl); (case hF => assumption))
  | ((with_reducible refine len_ok ?hK ?_); (case hK => rfl))
  | ((with_reducible refine ew_notT ?hK ?_); (case hK => rfl))
  | ((with_reducible refine ew_cutT ?hK ?_); (case hK => rfl))
  | ((with_reducible refine ⟨(?hK : Dt _ _), ?_⟩); (case hK => assumption))
  | ((with_reducible refine sw_unp2 ?hK ?hn ?_); (case hK => rfl); (case hn => rfl)))
local macro_rules | `(tactic| walk_at "side") => `(tactic| first
  | exact Or.inr (by decide)
  | exact Or.inl (by decide)
  | exact ⟨by decide, by decide⟩
  | exact ⟨by decide, by decide, by decide⟩
  | decide
  | (dsimp only; decide)
  | exact mw (by assumption) (by assumption))
local macro_rules | `(tactic| walk_at "r2") => `(tactic| first
  | walk_at "r1"
  | ((with_reducible refine ⟨_, opv_intC ?hC, ?_⟩); (case hC => walk_at "side"))
  | ((with_reducible refine ⟨_, cbv_lenL ?hK, ?_⟩); (case hK => rfl))
  | ((with_reducible refine ⟨_, cbv_allM ?hK, ?_⟩); (case hK => rfl))
  | ((with_reducible refine ⟨_, cbv_anyM ?hK, ?_⟩); (case hK => rfl))
  | ((with_reducible refine ⟨_, cbv_sumM ?hK, ?_⟩); (case hK => rfl))
  | ((with_reducible refine ⟨_, cbv_lenT ?hK, ?_⟩); (case hK => rfl))
  | (with_reducible refine ⟨_, opv_ixT (by with_unfolding_all rfl) (by with_unfolding_all rfl), ?_⟩)
  | refine br_t ?_
  | refine br_f ?_)
local macro_rules | `(tactic| walk_at "rd") => `(tactic| repeat (walk_at "r2"))
local macro_rules | `(tactic| walk_at "rs") => `(tactic| repeat ((fail_if_success (with_reducible refine sw_isif ?_)); walk_at "r2"))
local macro_rules | `(tactic| walk_at "nf") => `(tactic| (try simp only [List.set_cons_zero, List.set_cons_succ, Dl.sets, Dl.asD]))
local macro_rules | `(tactic| walk_at "ru") => `(tactic| repeat ((fail_if_success (with_reducible refine sw_seq ?_)); walk_at "r2"))

theorem rng_map {f : D → D} {n : Nat} : (rngD n).map f = (List.range n).map fun (i : Nat) => f (.int (i : Int)) := by
  unfold rngD
  rw [List.map_map]
  rfl
theorem rng_mem {n : Nat} {x : D} (h : x ∈ rngD n) : ∃ i : Nat, i < n ∧ x = .int (i : Int) := by
  obtain ⟨i, hi, rfl⟩ := List.mem_map.mp h
  exact ⟨i, List.mem_range.mp hi, rfl⟩
theorem at_ex {ds : List D} {d : Int} (h0 : 0 ≤ d) (h1 : d < ds.length) : ∃ x, atI ds d = some x ∧ x ∈ ds := by
  obtain ⟨k, rfl⟩ := Int.eq_ofNat_of_zero_le h0
  have hk : k < ds.length := by omega
  exact ⟨ds[k], at_nat (List.getElem?_eq_getElem hk), List.getElem_mem hk⟩
theorem mem_cut {ds : List D} {lo hi : Option Int} {x : D} (h : x ∈ cutD ds lo hi) : x ∈ ds := List.mem_of_mem_drop (List.mem_of_mem_take h)
theorem cut_len {ds : List D} {lo hi : Option Int} : (cutD ds lo hi).length ≤ ds.length := by
  unfold cutD
  rw [List.length_take, List.length_drop]
  omega
theorem cut_to {row : List Int} {k : Nat} (h : k ≤ row.length) : cutD (row.map D.int) none (some (k : Int)) = (row.take k).map D.int := by
  unfold cutD
  rw [HT.sIx_none, HT.sIx_nat, List.length_map, Nat.min_eq_left h, List.drop_zero, Nat.sub_zero, List.map_take]
theorem cut_from {row : List Int} {k : Nat} (h : k ≤ row.length) : cutD (row.map D.int) (some (k : Int)) none = (row.drop k).map D.int := by
  unfold cutD
  rw [HT.sIx_none, HT.sIx_nat, List.length_map, Nat.min_eq_left h, List.map_drop]
  exact List.take_of_length_le (by rw [List.length_drop, List.length_map]; exact Nat.le_refl _)
theorem cut_head {α : Type} {f : α → D} {xs : List α} {k : Int} (h : 0 ≤ k) : cutD (xs.map f) none (some k) = (xs.take k.toNat).map f := by
  obtain ⟨k, rfl⟩ := Int.eq_ofNat_of_zero_le h
  unfold cutD
  rw [HT.sIx_none, HT.sIx_nat, List.length_map, List.drop_zero, Nat.sub_zero, List.map_take, Int.toNat_natCast]
  by_cases c : k ≤ xs.length
  · rw [Nat.min_eq_left c]
  · rw [Nat.min_eq_right (by omega), List.take_of_length_le (by rw [List.length_map]; exact Nat.le_refl _), List.take_of_length_le (by rw [List.length_map]; omega)]
theorem cut_tail {α : Type} {f : α → D} {xs : List α} {k : Nat} : cutD (xs.map f) (some (k : Int)) none = (xs.drop k).map f := by
  unfold cutD
  rw [HT.sIx_none, HT.sIx_nat, List.length_map]
  have e : (xs.map f).drop (min k xs.length) = (xs.drop k).map f := by
    rw [List.map_drop]
    by_cases c : k ≤ xs.length
    · rw [Nat.min_eq_left c]
    · rw [Nat.min_eq_right (by omega), List.drop_of_length_le (by rw [List.length_map]; exact Nat.le_refl _), List.drop_of_length_le (by rw [List.length_map]; omega)]
  rw [e]
  exact List.take_of_length_le (by rw [List.length_map, List.length_drop]; omega)
theorem zip_map2 {α β γ δ : Type} {f : α → γ} {g : β → δ} {xs : List α} {ys : List β} : (xs.map f).zip (ys.map g) = (xs.zip ys).map fun z => (f z.1, g z.2) := by
  rw [List.zip_map]
  rfl
theorem sw_augV {Γ : Dl.Ctx} {ρ : Dl.Env} {te : TE} {Δ : Dl.Fin} {i : Nat} {r : R2} (h : ∃ x, ρ[i]? = some (some (.fz x)) ∧ EW Γ te ρ fun y ρ1 => ∃ z, OpV Γ r x y z ∧ Δ.nx (ρ1.set i (some (.fz z)))) : SW Γ (tAug i te r) ρ Δ := fun σ G H D k hn hr hb hc => by
  obtain ⟨a, ha, h⟩ := h
  obtain ⟨v0, g0, r0⟩ := k.var i _ ha
  refine ⟨v0, g0, ?_⟩
  refine h σ G H _ k fun d ρ1 v G1 H1 e1 k1 r1 ⟨z, ho, p⟩ => ?_
  exact ho G1 H1 v0 v _ k1.gh (Rep.mono e1 r0) r1 fun u ru => hn _ _ G1 H1 e1 (k1.store (.fz ru)) p
/-! rows of numbers, stepped on and back -/
theorem mwG {i j : Int} {n m : Nat} (ha : i.natAbs < 2 ^ n) (hb : j.natAbs < 2 ^ m) (h : n + m + 2 ≤ 1000000) : CMulW i j := by
  have h1 : i.natAbs.log2 < n + 1 := PySem.Flt.log2_lt_of (Nat.succ_pos _) (Nat.lt_of_lt_of_le ha (Nat.pow_le_pow_right (by decide) (Nat.le_succ n)))
  have h2 : j.natAbs.log2 < m + 1 := PySem.Flt.log2_lt_of (Nat.succ_pos _) (Nat.lt_of_lt_of_le hb (Nat.pow_le_pow_right (by decide) (Nat.le_succ m)))
  show i.natAbs.log2 + j.natAbs.log2 < 1000000
  omega
theorem rng_zip {g : Int → Int → Int} {a b : List Int} {n : Nat} (ha : a.length = n) (hb : b.length = n) : ((List.range n).map fun i => g (a.getD i 0) (b.getD i 0)) = List.zipWith g a b := by
  apply List.ext_getElem?
  intro i
  rw [List.getElem?_map, List.getElem?_zipWith]
  by_cases hi : i < n
  · have ha' : i < a.length := by omega
    have hb' : i < b.length := by omega
    rw [List.getElem?_range hi, List.getElem?_eq_getElem ha', List.getElem?_eq_getElem hb']
    have ea : a.getD i 0 = a[i] := by
      rw [List.getD_eq_getElem?_getD, List.getElem?_eq_getElem ha']
      rfl
    have eb : b.getD i 0 = b[i] := by
      rw [List.getD_eq_getElem?_getD, List.getElem?_eq_getElem hb']
      rfl
    show some (g (a.getD i 0) (b.getD i 0)) = some (g a[i] b[i])
    rw [ea, eb]
  · rw [List.getElem?_eq_none (by rw [List.length_range]; omega), List.getElem?_eq_none (l := a) (by omega)]
    rfl
/-- the data of the row that is reckoned member by member -/
def linF (c : Int) (a b : List Int) : D → D
  | .int i => .int (a.getD i.toNat 0 + c * b.getD i.toNat 0)
  | _ => .non
theorem lin_all {c : Int} {a b : List Int} {n : Nat} (ha : a.length = n) (hb : b.length = n) : (rngD n).map (linF c a b) = (List.zipWith (fun x y => x + c * y) a b).map D.int := by
  rw [rng_map, ← rng_zip (g := fun x y => x + c * y) ha hb, List.map_map]
  rfl
theorem cut_init {α : Type} {f : α → D} {xs : List α} : cutD (xs.map f) none (some (-1)) = xs.dropLast.map f := by
  unfold cutD
  have e : HT.sIx (xs.map f).length (xs.map f).length (some (-1)) = xs.length - 1 := by
    show (if (-1 : Int) < 0 then ((-1 : Int) + ((xs.map f).length : Int)).toNat else min (-1 : Int).toNat (xs.map f).length) = _
    rw [if_pos (by decide), List.length_map]
    omega
  rw [e, HT.sIx_none, List.drop_zero, Nat.sub_zero, List.dropLast_eq_take, List.map_take]
theorem cut_one {α : Type} {f : α → D} {xs : List α} : cutD (xs.map f) (some 1) none = xs.tail.map f := by
  have h := cut_tail (k := 1) (f := f) (xs := xs)
  rw [List.drop_one] at h
  exact h
theorem at_end {xs : List Int} (h : xs ≠ []) : atI (xs.map D.int) (-1) = some (.int (xs.getD (xs.length - 1) 0)) := by
  obtain ⟨u, l, rfl, _, e2⟩ := Rw.last_split h
  rw [e2, List.map_append]
  exact atI_last _ _
@[reducible] def tI (v : List Int) : D := .tup (v.map D.int)
theorem at_head {xs : List Int} (h : xs ≠ []) : atI (xs.map D.int) 0 = some (.int (xs.headD 0)) := by
  cases xs with
  | nil => exact absurd rfl h
  | cons x xs => exact at_nat (j := 0) rfl
def mulF : D → D
  | .tup [.int a, .int b] => .int (a * b)
  | _ => .non
def negF : D → D
  | .int a => .int (-a)
  | _ => .non
def scF (c : Int) : D → D
  | .int a => .int (c * a)
  | _ => .non
theorem neg_all {xs : List Int} : (xs.map D.int).map negF = (xs.map fun x => -x).map D.int := by
  rw [List.map_map, List.map_map]
  rfl
theorem sc_all {c : Int} {xs : List Int} : (xs.map D.int).map (scF c) = (xs.map fun x => c * x).map D.int := by
  rw [List.map_map, List.map_map]
  rfl
theorem dot_zip {a b : List Int} : ((a.zip b).map fun z => z.1 * z.2) = List.zipWith (fun x y => x * y) a b := by
  induction a generalizing b with
  | nil => rfl
  | cons x a ih =>
    cases b with
    | nil => rfl
    | cons y b =>
      show x * y :: (a.zip b).map _ = _
      rw [ih]
      rfl
abbrev c_sum_of_products : Cn := fun K w ds Ψ Ξ => ∃ a b : List Int, ds = [tI a, tI b] ∧ a.length = b.length ∧ a.length ≤ 1000 ∧ Big 400000 a ∧ Big 400000 b ∧ Ψ (.fz (.int (Rw.dot a b)))
theorem l_sum_of_products : ∀ K w ds Ψ Ξ, c_sum_of_products K w ds Ψ Ξ → ds.length = 2 := fun K w ds Ψ Ξ h => by
  obtain ⟨_, _, rfl, _⟩ := h
  rfl
theorem ok_sum_of_products {P : Program} {w : World} {K : PySem.W.Frag} {mg : Str → Option Value} {base : Heap} {A : Ad} (T : Txt K mg A) : FnOk P w K mg base CX0 1 A.sum_of_products A.fd_sum_of_products ["one", "other"] (SpD K AnyR c_sum_of_products) := by
  refine Fun.ok T.F_sum_of_products sc_sum_of_products (fun vs H Q E h => spd_len (l_sum_of_products) h) (fun cdv A' outer s H vs Q E hr h => ⟨_, (pss_one (ps_ret (pe_callB (cr_sum rfl) (by rfl) T.b_sum (by decide +kernel) (pa_cons (pe_lc (own := [("a", 2), ("b", 3)]) (by rfl) sc_sum_of_products.nd (RZ.pi_zipA (by rfl) T.b_zip (pa_cons (pv 0) (pa_cons (pv 1) pa_nil))) (blkOk_by (own := [("a", 2), ("b", 3)]) (N := ["one", "other", "a", "b"]) (sc := defScope s_sum_of_products) (by decide +kernel)) (fun _ _ _ _ _ => (by exact (show PG _ _ (gTup K 2 _) from (pg_tup (by rfl) (pgs_cons (pg_name (i := 2) sc_sum_of_products.nd rfl (.inl rfl)) (pgs_cons (pg_name (i := 3) sc_sum_of_products.nd rfl (.inl rfl)) pgs_nil)))))) (fun _ _ _ _ _ => pts_nil) (fun _ _ _ _ _ => (pe_op op_mulW (pv 2) (pv 3)))) pa_nil)))), ?_⟩)
  refine body_ok 2 (by decide) (l_sum_of_products) h (fun Γ ds Ψ Ξ hK hX hF hc ke => ?_)
  subst hK
  obtain ⟨a, b, rfl, hl, hb, ba, bb, hc⟩ := hc
  refine sw_ret (ew_cb (aw_cons (ew_of_eb (eb_mapZT rfl rfl rfl rfl (by decide) (aw_cons (ew_var rfl (aw_cons (ew_var rfl (aw_nil ⟨_, _, rfl, by rw [List.length_map, List.length_map]; exact hl, (fun es z => by cases z), (fun es z => by cases z), ?_, mulF, fun x hx => ?_, ?_⟩)))))))))
  · rw [List.length_map, List.length_zip, List.length_map, List.length_map]
    omega
  · rw [zip_map2, List.map_map] at hx
    obtain ⟨z, hz, rfl⟩ := List.mem_map.mp hx
    obtain ⟨h1, h2⟩ := List.of_mem_zip hz
    refine ⟨_, _, rfl, fun c => ?_⟩
    walk_at "rd"
    exact ⟨_, opv_intC (mwG (ba _ h1) (bb _ h2) (by decide)), rfl, rfl⟩
  · have e : ((((a.map D.int).zip (b.map D.int)).map fun p => D.tup [p.1, p.2]).map mulF) = (a.zip b).map fun z => D.int (z.1 * z.2) := by
      rw [zip_map2, List.map_map, List.map_map]
      rfl
    rw [e]
    walk_at "rd"
    have e2 : ((a.zip b).map fun z => z.1 * z.2).sum = Rw.dot a b := by
      unfold Rw.dot
      rw [dot_zip]
    rw [e2]
    exact hc
abbrev c_no_shift : Cn := fun K w ds Ψ Ξ => ∃ n : Nat, ds = [.int n] ∧ 1 ≤ n ∧ n ≤ 8 ∧ Ψ (.fz (tI (1 :: List.replicate (n - 1) 0)))
theorem l_no_shift : ∀ K w ds Ψ Ξ, c_no_shift K w ds Ψ Ξ → ds.length = 1 := fun K w ds Ψ Ξ h => by
  obtain ⟨_, rfl, _⟩ := h
  rfl
theorem ok_no_shift {P : Program} {w : World} {K : PySem.W.Frag} {mg : Str → Option Value} {base : Heap} {A : Ad} (T : Txt K mg A) : FnOk P w K mg base CX0 1 A.no_shift A.fd_no_shift ["many"] (SpD K AnyR c_no_shift) := by
  refine Fun.ok T.F_no_shift sc_no_shift (fun vs H Q E h => spd_len (l_no_shift) h) (fun cdv A' outer s H vs Q E hr h => ⟨_, (pss_one (ps_ret (pe_op op_catA (pe_tup (pa_cons pe_int pa_nil)) (pe_op op_repT1 (pe_tup (pa_cons pe_int pa_nil)) (pe_op op_sub (pv 0) pe_int))))), ?_⟩)
  refine body_ok 1 (by decide) (l_no_shift) h (fun Γ ds Ψ Ξ hK hX hF hc ke => ?_)
  subst hK
  obtain ⟨n, rfl, n1, n8, hc⟩ := hc
  walk_at "rd"
  refine ⟨_, _, rfl, rfl, by simp, by omega, by omega, by decide, ?_⟩
  refine ⟨_, _, rfl, rfl, ?_, ?_⟩
  · rw [flat_rep1, List.length_replicate]
    show 1 + _ ≤ 100000
    omega
  · rw [flat_rep1, show ((n : Int) - 1).toNat = n - 1 by omega]
    show Ψ (.fz (.tup (.int 1 :: List.replicate (n - 1) (.int 0))))
    have e : D.int 1 :: List.replicate (n - 1) (D.int 0) = (1 :: List.replicate (n - 1) 0).map D.int := by
      rw [List.map_cons, List.map_replicate]
    rw [e]
    exact hc
abbrev c_shift_forward : Cn := fun K w ds Ψ Ξ => ∃ f v : List Int, ds = [tI f, tI v] ∧ FOk f ∧ v.length = f.length ∧ Big 400000 v ∧ Ψ (.fz (tI (Rw.fwd f v)))
theorem l_shift_forward : ∀ K w ds Ψ Ξ, c_shift_forward K w ds Ψ Ξ → ds.length = 2 := fun K w ds Ψ Ξ h => by
  obtain ⟨_, _, rfl, _⟩ := h
  rfl
theorem ok_shift_forward {P : Program} {w : World} {K : PySem.W.Frag} {mg : Str → Option Value} {base : Heap} {A : Ad} (T : Txt K mg A) : FnOk P w K mg base CX0 1 A.shift_forward A.fd_shift_forward ["factors", "shift"] (SpD K AnyR c_shift_forward) := by
  refine Fun.ok T.F_shift_forward sc_shift_forward (fun vs H Q E h => spd_len (l_shift_forward) h) (fun cdv A' outer s H vs Q E hr h => ⟨_, (pss_cons (ps_set (i := 2) sc_shift_forward.nd rfl (.inr rfl) (pe_ix ix_tup (pv 1) (pe_un un_neg pe_int) (fun _ _ => rfl)))
        (pss_cons (ps_set (i := 3) sc_shift_forward.nd rfl (.inr rfl) (pe_op op_catA (pe_tup (pa_cons pe_int pa_nil)) (pe_slice sl_tupA (pv 1) po_none (po_some (pe_un un_neg pe_int)))))
        (pss_one (ps_ret (pe_callTy call_tuple_of (by rfl) T.b_tuple (by decide +kernel) (pa_cons (pe_lc (own := [("i", 4)]) (by rfl) sc_shift_forward.nd (pi_range1 (by rfl) T.b_range (pa_cons (pe_callB call_len_seq (by rfl) T.b_len (by decide +kernel) (pa_cons (pv 0) pa_nil)) pa_nil)) (blkOk_by (own := [("i", 4)]) (N := ["factors", "shift", "last", "moved", "i"]) (sc := defScope s_shift_forward) (by decide +kernel)) (fun _ _ _ _ _ => (pg_name (i := 4) sc_shift_forward.nd rfl (.inl rfl))) (fun _ _ _ _ _ => pts_nil) (fun _ _ _ _ _ => (pe_op op_add (pe_ix (by exact (show IxR _ (rIxT K) from ix_tup)) (pv 3) (pv 4) (fun _ _ => rfl)) (pe_op op_mulW (pv 2) (pe_ix (by exact (show IxR _ (rIxT K) from ix_tup)) (pv 0) (pv 4) (fun _ _ => rfl)))))) pa_nil)))))), ?_⟩)
  refine body_ok 2 (by decide) (l_shift_forward) h (fun Γ ds Ψ Ξ hK hX hF hc ke => ?_)
  subst hK
  obtain ⟨f, v, rfl, hf, hl, bv, hc⟩ := hc
  have hne : v ≠ [] := fun e => hf.ne (by rw [e] at hl; exact List.eq_nil_of_length_eq_zero hl.symm)
  have h8 := hf.len
  walk_at "rd"
  refine ⟨_, opv_ixT rfl (at_end hne), ?_⟩
  walk_at "rd"
  refine ⟨_, _, rfl, rfl, ?_, ?_⟩
  · rw [cut_init, List.length_map, List.length_dropLast]
    show 1 + _ ≤ 100000
    omega
  · rw [cut_init]
    have e0 : [D.int 0] ++ v.dropLast.map D.int = (0 :: v.dropLast).map D.int := rfl
    rw [e0]
    have hml : (0 :: v.dropLast).length = f.length := by
      rw [List.length_cons, List.length_dropLast, hl]
      have := List.length_pos_iff.mpr hf.ne
      omega
    walk_at "rd"
    rw [List.length_map, Int.toNat_natCast]
    refine ⟨by omega, (fun es z => by cases z), by rw [rngD_len]; omega, linF (v.getD (v.length - 1) 0) (0 :: v.dropLast) f, fun x hx c => ?_, ?_⟩
    · obtain ⟨i, hi, rfl⟩ := rng_mem hx
      walk_at "rd"
      refine ⟨_, opv_ixI rfl (by omega) (by omega), ?_⟩
      walk_at "rd"
      refine ⟨_, opv_ixI rfl (by omega) (by omega), ?_⟩
      walk_at "rd"
      refine ⟨_, opv_intC (mwG (big_getD bv _) (big_getD hf.big _) (by decide)), ?_⟩
      walk_at "rd"
      exact ⟨rfl, rfl⟩
    · rw [lin_all hml rfl]
      walk_at "rd"
      exact hc
abbrev c_shift_back : Cn := fun K w ds Ψ Ξ => ∃ f v : List Int, ds = [tI f, tI v] ∧ FOk f ∧ v.length = f.length ∧ Big 400000 v ∧ Ψ (.fz (tI (Rw.bck f v)))
theorem l_shift_back : ∀ K w ds Ψ Ξ, c_shift_back K w ds Ψ Ξ → ds.length = 2 := fun K w ds Ψ Ξ h => by
  obtain ⟨_, _, rfl, _⟩ := h
  rfl
theorem ok_shift_back {P : Program} {w : World} {K : PySem.W.Frag} {mg : Str → Option Value} {base : Heap} {A : Ad} (T : Txt K mg A) : FnOk P w K mg base CX0 1 A.shift_back A.fd_shift_back ["factors", "shift"] (SpD K AnyR c_shift_back) := by
  refine Fun.ok T.F_shift_back sc_shift_back (fun vs H Q E h => spd_len (l_shift_back) h) (fun cdv A' outer s H vs Q E hr h => ⟨_, (pss_cons (ps_set (i := 2) sc_shift_back.nd rfl (.inr rfl) (pe_op op_mulW (pe_ix ix_tup (pv 1) pe_int (fun _ _ => rfl)) (pe_ix ix_tup (pv 0) pe_int (fun _ _ => rfl))))
        (pss_cons (ps_set (i := 3) sc_shift_back.nd rfl (.inr rfl) (pe_op op_catA (pe_slice sl_tupA (pv 1) (po_some pe_int) po_none) (pe_tup (pa_cons pe_int pa_nil))))
        (pss_cons (ps_set (i := 4) sc_shift_back.nd rfl (.inr rfl) (pe_op op_catA (pe_callTy call_tuple_of (by rfl) T.b_tuple (by decide +kernel) (pa_cons (pe_lc (own := [("factor", 5)]) (by rfl) sc_shift_back.nd (pi_tup (pe_slice sl_tupA (pv 0) (po_some pe_int) po_none)) (blkOk_by (own := [("factor", 5)]) (N := ["factors", "shift", "head", "moved", "undone", "factor", "i"]) (sc := defScope s_shift_back) (by decide +kernel)) (fun _ _ _ _ _ => (pg_name (i := 5) sc_shift_back.nd rfl (.inl rfl))) (fun _ _ _ _ _ => pts_nil) (fun _ _ _ _ _ => (pe_un un_neg (pv 5)))) pa_nil)) (pe_tup (pa_cons pe_int pa_nil))))
        (pss_one (ps_ret (pe_callTy call_tuple_of (by rfl) T.b_tuple (by decide +kernel) (pa_cons (pe_lc (own := [("i", 6)]) (by rfl) sc_shift_back.nd (pi_range1 (by rfl) T.b_range (pa_cons (pe_callB call_len_seq (by rfl) T.b_len (by decide +kernel) (pa_cons (pv 0) pa_nil)) pa_nil)) (blkOk_by (own := [("i", 6)]) (N := ["factors", "shift", "head", "moved", "undone", "factor", "i"]) (sc := defScope s_shift_back) (by decide +kernel)) (fun _ _ _ _ _ => (pg_name (i := 6) sc_shift_back.nd rfl (.inl rfl))) (fun _ _ _ _ _ => pts_nil) (fun _ _ _ _ _ => (pe_op op_add (pe_ix (by exact (show IxR _ (rIxT K) from ix_tup)) (pv 3) (pv 6) (fun _ _ => rfl)) (pe_op op_mulW (pv 2) (pe_ix (by exact (show IxR _ (rIxT K) from ix_tup)) (pv 4) (pv 6) (fun _ _ => rfl)))))) pa_nil))))))), ?_⟩)
  refine body_ok 2 (by decide) (l_shift_back) h (fun Γ ds Ψ Ξ hK hX hF hc ke => ?_)
  subst hK
  obtain ⟨f, v, rfl, hf, hl, bv, hc⟩ := hc
  have hne : v ≠ [] := fun e => hf.ne (by rw [e] at hl; exact List.eq_nil_of_length_eq_zero hl.symm)
  have h8 := hf.len
  have hp := List.length_pos_iff.mpr hf.ne
  walk_at "rd"
  refine ⟨_, opv_ixT rfl (at_head hne), ?_⟩
  walk_at "rd"
  refine ⟨_, opv_ixT rfl (at_head hf.ne), ?_⟩
  walk_at "rd"
  refine ⟨_, opv_intC (mwG (big_headD bv) (big_headD hf.big) (by decide)), ?_⟩
  walk_at "rd"
  refine ⟨_, _, rfl, rfl, ?_, ?_⟩
  · rw [cut_one, List.length_map, List.length_tail]
    show _ + 1 ≤ 100000
    omega
  · rw [cut_one]
    have e0 : v.tail.map D.int ++ [D.int 0] = (v.tail ++ [0]).map D.int := by
      rw [List.map_append]
      rfl
    rw [e0]
    walk_at "rd"
    rw [cut_one]
    refine ⟨(fun es z => by cases z), by rw [List.length_map, List.length_tail]; omega, negF, fun x hx c => ?_, ?_⟩
    · obtain ⟨y, hy, rfl⟩ := List.mem_map.mp hx
      walk_at "rd"
      exact ⟨rfl, rfl⟩
    · rw [neg_all]
      walk_at "rd"
      refine ⟨_, _, rfl, rfl, ?_, ?_⟩
      · rw [List.length_map, List.length_map, List.length_tail]
        show _ + 1 ≤ 100000
        omega
      · have e1 : (f.tail.map fun x => -x).map D.int ++ [D.int 1] = ((f.tail.map fun x => -x) ++ [1]).map D.int := by
          rw [List.map_append (f := D.int)]
          rfl
        rw [e1]
        have hm1 : (v.tail ++ [0]).length = f.length := by
          rw [List.length_append, List.length_tail, hl]
          show _ + 1 = _
          omega
        have hm2 : ((f.tail.map fun x => -x) ++ [1]).length = f.length := by
          rw [List.length_append, List.length_map, List.length_tail]
          show _ + 1 = _
          omega
        have hb1 : Big 20 ((f.tail.map fun x => -x) ++ [1]) := big_app (fun y hy => by
          obtain ⟨x, hx, rfl⟩ := List.mem_map.mp hy
          rw [Int.natAbs_neg]
          exact big_tail hf.big x hx) (big_cons (by decide) big_nil)
        walk_at "rd"
        rw [List.length_map, Int.toNat_natCast]
        refine ⟨by omega, (fun es z => by cases z), by rw [rngD_len]; omega, linF (v.headD 0 * f.headD 0) (v.tail ++ [0]) ((f.tail.map fun x => -x) ++ [1]), fun x hx c => ?_, ?_⟩
        · obtain ⟨i, hi, rfl⟩ := rng_mem hx
          walk_at "rd"
          refine ⟨_, opv_ixI rfl (by omega) (by omega), ?_⟩
          walk_at "rd"
          refine ⟨_, opv_ixI rfl (by omega) (by omega), ?_⟩
          walk_at "rd"
          refine ⟨_, opv_intC (mwG (mul_bd (big_headD bv) (big_headD hf.big)) (big_getD hb1 _) (by decide)), ?_⟩
          walk_at "rd"
          exact ⟨rfl, rfl⟩
        · rw [lin_all hm1 hm2]
          walk_at "rd"
          exact hc
abbrev c_shift_behind : Cn := fun K w ds Ψ Ξ => ∃ f a b : List Int, ds = [tI f, tI a, tI b] ∧ FOk f ∧ a.length = f.length ∧ b.length = f.length ∧ Big 190000 a ∧ Big 190000 b ∧ Ψ (.fz (tI (Rw.bhd f a b)))
theorem l_shift_behind : ∀ K w ds Ψ Ξ, c_shift_behind K w ds Ψ Ξ → ds.length = 3 := fun K w ds Ψ Ξ h => by
  obtain ⟨_, _, _, rfl, _⟩ := h
  rfl
theorem ok_shift_behind {P : Program} {w : World} {K : PySem.W.Frag} {mg : Str → Option Value} {base : Heap} {A : Ad} (T : Txt K mg A) : FnOk P w K mg base CX0 2 A.shift_behind A.fd_shift_behind ["factors", "one", "other"] (SpD K AnyR c_shift_behind) := by
  refine Fun.ok T.F_shift_behind sc_shift_behind (fun vs H Q E h => spd_len (l_shift_behind) h) (fun cdv A' outer s H vs Q E hr h => ⟨_, (pss_cons (ps_set (i := 3) sc_shift_behind.nd rfl (.inr rfl) (pe_op op_repT1 (pe_tup (pa_cons pe_int pa_nil)) (pe_callB call_len_seq (by rfl) T.b_len (by decide +kernel) (pa_cons (pv 0) pa_nil))))
        (pss_cons (ps_for PassesOwn.never rfl (RT.pi_revA (by rfl) T.b_reversed (pv 2)) (pg_name (i := 4) sc_shift_behind.nd rfl (.inr rfl)) (pss_cons (ps_set (i := 3) sc_shift_behind.nd rfl (.inr rfl) (pe_call (ok_shift_forward T) (hr.mono (by decide)) (by rfl) T.m_shift_forward T.F_shift_forward.kp (b_shift_forward T) .nil pass0 (pa_cons (pv 0) (pa_cons (pv 3) pa_nil))))
        (pss_one (ps_set (i := 3) sc_shift_behind.nd rfl (.inr rfl) (pe_callTy call_tuple_of (by rfl) T.b_tuple (by decide +kernel) (pa_cons (pe_lc (own := [("i", 5)]) (by rfl) sc_shift_behind.nd (pi_range1 (by rfl) T.b_range (pa_cons (pe_callB call_len_seq (by rfl) T.b_len (by decide +kernel) (pa_cons (pv 0) pa_nil)) pa_nil)) (blkOk_by (own := [("i", 5)]) (N := ["factors", "one", "other", "total", "coefficient", "i"]) (sc := defScope s_shift_behind) (by decide +kernel)) (fun _ _ _ _ _ => (pg_name (i := 5) sc_shift_behind.nd rfl (.inl rfl))) (fun _ _ _ _ _ => pts_nil) (fun _ _ _ _ _ => (pe_op op_add (pe_ix (by exact (show IxR _ (rIxT K) from ix_tup)) (pv 3) (pv 5) (fun _ _ => rfl)) (pe_op op_mulW (pv 4) (pe_ix (by exact (show IxR _ (rIxT K) from ix_tup)) (pv 1) (pv 5) (fun _ _ => rfl)))))) pa_nil))))))
        (pss_one (ps_ret (pv 3))))), ?_⟩)
  refine body_ok 3 (by decide) (l_shift_behind) h (fun Γ ds Ψ Ξ hK hX hF hc ke => ?_)
  subst hK
  obtain ⟨f, a, b, rfl, hf, ha, hb, ba, bb, hc⟩ := hc
  have h8 := hf.len
  have hp := List.length_pos_iff.mpr hf.ne
  walk_at "rd"
  refine ⟨_, _, rfl, rfl, by simp, Int.natCast_nonneg _, by rw [List.length_map]; omega, by decide, ?_⟩
  rw [flat_rep1, Int.toNat_natCast, List.length_map]
  have e0 : List.replicate f.length (D.int 0) = (List.replicate f.length 0).map D.int := by rw [List.map_replicate]
  rw [e0]
  have blen : ∀ i, (Rw.bhd f a (b.drop i)).length = f.length := fun i => Rw.bhd_len ha hf.ne
  have bbig : ∀ i, Big 390000 (Rw.bhd f a (b.drop i)) := fun i => big_mono (bhd_big (m := 190000) hf.big ba (other := b.drop i) fun x hx => bb x (List.mem_of_mem_drop hx)) (by rw [List.length_drop]; omega)
  refine sw_seq (sw_forV rfl (ew_var rfl ⟨_, rfl, fun i ρ => ∃ c4, ρ = [some (.fz (tI f)), some (.fz (tI a)), some (.fz (tI b)), some (.fz (tI (Rw.bhd f a (b.drop (b.length - i))))), c4, none], ⟨none, ?_⟩, ?_, ?_⟩))
  · rw [Nat.sub_zero, List.drop_length]
    rfl
  · rintro i x ρ2 hx ⟨c4, rfl⟩
    have hi : i < b.length := by
      have := (List.getElem?_eq_some_iff.mp hx).1
      rwa [List.length_reverse, List.length_map] at this
    rw [List.getElem?_reverse (by rw [List.length_map]; exact hi), List.length_map, List.getElem?_map] at hx
    have hj : b.length - 1 - i < b.length := by omega
    rw [List.getElem?_eq_getElem hj] at hx
    obtain rfl := Option.some.inj hx
    have hd : b.drop (b.length - (i + 1)) = b[b.length - 1 - i] :: b.drop (b.length - i) := by
      have e1 : b.length - (i + 1) = b.length - 1 - i := by omega
      have e2 : b.length - i = b.length - 1 - i + 1 := by omega
      rw [e1, e2]
      exact List.drop_eq_getElem_cons hj
    refine ⟨_, gd_name, ?_⟩
    walk_at "rd"
    refine ⟨hf, blen _, big_mono (bbig _) (by decide), ?_⟩
    walk_at "rd"
    rw [List.length_map, Int.toNat_natCast]
    have hl1 : (Rw.fwd f (Rw.bhd f a (b.drop (b.length - i)))).length = f.length := Rw.fwd_len (blen _) (fun e => hf.ne (by
      have := blen (b.length - i)
      rw [e] at this
      exact List.eq_nil_of_length_eq_zero this.symm))
    refine ⟨by omega, (fun es z => by cases z), by rw [rngD_len]; omega, linF b[b.length - 1 - i] (Rw.fwd f (Rw.bhd f a (b.drop (b.length - i)))) a, fun x hx c => ?_, ?_⟩
    · obtain ⟨j, hj, rfl⟩ := rng_mem hx
      walk_at "rd"
      refine ⟨_, opv_ixI rfl (by omega) (by omega), ?_⟩
      walk_at "rd"
      refine ⟨_, opv_ixI rfl (by omega) (by omega), ?_⟩
      walk_at "rd"
      refine ⟨_, opv_intC (mwG (bb _ (List.getElem_mem _)) (big_getD ba _) (by decide)), ?_⟩
      walk_at "rd"
      exact ⟨rfl, rfl⟩
    · rw [lin_all hl1 ha]
      walk_at "rd"
      refine ⟨some (.fz (.int b[b.length - 1 - i])), ?_⟩
      rw [hd]
      rfl
  · rintro ρ2 ⟨c4, rfl⟩
    have e : b.drop (b.length - (b.map D.int).reverse.length) = b := by rw [List.length_reverse, List.length_map, Nat.sub_self, List.drop_zero]
    rw [e]
    exact sw_ret (ew_var rfl hc)
end Pf

namespace Pf
open PySem L2 Dl Sh
open Evl (Ex)
open Ry
local macro_rules | `(tactic| walk_at "r0") => `(tactic| with_reducible first
  | refine sw_seq ?_
  | refine ew_var rfl ?_
  | refine ew_int ?_
  | refine ew_bl ?_
  | refine ew_non ?_
  | refine ew_str ?_
  | refine aw_cons ?_
  | refine aw_nil ?_
  | refine sw_par ?_
  | refine sw_next ?_
  | refine sw_if ?_
  | refine sw_ret ?_
  | refine tw_not ?_
  | refine tw_and ?_
  | refine tw_or ?_
  | refine tw_test ?_
  | refine tw_B ?_
  | refine tw_tru rfl ?_
  | refine ew_andV ?_
  | refine ew_orV ?_
  | refine ew_notV ?_
  | refine ew_if ?_
  | refine ew_chain ?_
  | refine ew_isN ?_
  | refine ew_tup ?_
  | refine ew_lst ?_
  | refine ew_isiD isN_int rfl ?_
  | refine ew_isiD isN_bool rfl ?_
  | refine ew_isiD isN_tuple rfl ?_
  | refine ew_isiD isN_list rfl ?_
  | refine ew_isiD isN_str rfl ?_
  | refine ew_isi2D isN_list isN_tuple rfl ?_
  | refine ew_isi2D isN_tuple isN_list rfl ?_
  | refine ew_cb ?_
  | refine ew_neg ?_
  | refine ew_op ?_
  | refine ⟨_, opv_int, ?_⟩
  | refine ⟨_, opv_cmp, ?_⟩
  | refine ⟨_, opv_eq, ?_⟩
  | refine ⟨_, opv_ne, ?_⟩
  | refine ⟨_, opv_eqB, ?_⟩
  | refine ⟨_, opv_eqS, ?_⟩
  | refine ⟨_, cbv_abs, ?_⟩
  | refine ⟨_, cbv_max2, ?_⟩
  | refine ⟨_, cbv_min2, ?_⟩
  | refine pw_none ?_
  | refine pw_some ?_
  | refine ⟨_, cbv_int, ?_⟩
  | refine ⟨_, rfl, ?_⟩
  | refine ⟨_, _, rfl, ?_⟩
  | refine ⟨_, _, _, rfl, ?_⟩
  | refine ⟨_, _, _, _, rfl, ?_⟩
  | refine br_t ?_
  | refine br_f ?_
  | refine ⟨dt_int, ?_⟩
  | refine ⟨dt_bl, ?_⟩
  | refine ⟨dt_str, ?_⟩
  | refine ⟨dt_non, ?_⟩
  | refine ⟨dt_tup, ?_⟩
  | refine ⟨dt_lst, ?_⟩
  | refine sw_asg ?_
  | refine sw_drop ?_)
local macro_rules | `(tactic| walk_at "r1") => `(tactic| first
  | ((with_reducible refine ew_tupL ?hK ?_); (case hK => rfl))
  | ((with_reducible refine ew_catT ?hK ?_); (case hK => rfl))
  | ((with_reducible refine ew_repT ?hK ?_); (case hK => rfl))
  | ((with_reducible refine ew_of_eb (eb_listL ?hK ?_)); (case hK => rfl))
  | ((with_reducible refine ew_of_eb (eb_cutL ?hK ?_)); (case hK => rfl))
  | walk_at "r0"
  | ((with_reducible refine ew_of_eb (eb_mapT ?hV ?hK ?_)); (case hK => rfl); (case hV => rfl))
  | ((with_reducible refine ew_of_eb (eb_mapL ?hV ?hK ?_)); (case hK => rfl); (case hV => rfl))
  | ((with_reducible refine ew_of_eb (eb_mapR ?hV ?_)); (case hV => rfl))
  | ((with_reducible refine ew_callP ?hK trivial ?_); (case hK => rfl))
  | ((with_reducible refine ew_callW ?hK trivial ?_); (case hK => rfl))
  | ((with_reducible refine ew_callH ?hK trivial ?_); (case hK => rfl))
  | ((with_reducible refine ew_callR ?hK ?hF ?_); (case hK => rfl); (case hF => assumption))
  | ((with_reducible refine len_ok ?hK ?_); (case hK => rfl))
  | ((with_reducible refine ew_notT ?hK ?_); (case hK => rfl))
  | ((with_reducible refine ew_cutT ?hK ?_); (case hK => rfl))
  | ((with_reducible refine ⟨(?hK : Dt _ _), ?_⟩); (case hK => assumption))
  | ((with_reducible refine sw_unp2 ?hK ?hn ?_); (case hK => rfl); (case hn => rfl)))
local macro_rules | `(tactic| walk_at "side") => `(tactic| first
  | exact Or.inr (by decide)
  | exact Or.inl (by decide)
  | exact ⟨by decide, by decide⟩
  | exact ⟨by decide, by decide, by decide⟩
  | decide
  | (dsimp only; decide)
  | exact mw (by assumption) (by assumption))
local macro_rules | `(tactic| walk_at "r2") => `(tactic| first
  | walk_at "r1"
  | ((with_reducible refine ⟨_, opv_intC ?hC, ?_⟩); (case hC => walk_at "side"))
  | ((with_reducible refine ⟨_, cbv_lenL ?hK, ?_⟩); (case hK => rfl))
  | ((with_reducible refine ⟨_, cbv_allM ?hK, ?_⟩); (case hK => rfl))
  | ((with_reducible refine ⟨_, cbv_anyM ?hK, ?_⟩); (case hK => rfl))
  | ((with_reducible refine ⟨_, cbv_sumM ?hK, ?_⟩); (case hK => rfl))
  | ((with_reducible refine ⟨_, cbv_lenT ?hK, ?_⟩); (case hK => rfl))
  | (with_reducible refine ⟨_, opv_ixT (by with_unfolding_all rfl) (by with_unfolding_all rfl), ?_⟩)
  | refine br_t ?_
  | refine br_f ?_)
local macro_rules | `(tactic| walk_at "rd") => `(tactic| repeat (walk_at "r2"))
local macro_rules | `(tactic| walk_at "rs") => `(tactic| repeat ((fail_if_success (with_reducible refine sw_isif ?_)); walk_at "r2"))
local macro_rules | `(tactic| walk_at "nf") => `(tactic| (try simp only [List.set_cons_zero, List.set_cons_succ, Dl.sets, Dl.asD]))
local macro_rules | `(tactic| walk_at "ru") => `(tactic| repeat ((fail_if_success (with_reducible refine sw_seq ?_)); walk_at "r2"))

abbrev c_shift_by : Cn := fun K w ds Ψ Ξ => ∃ (f : List Int) (k : Int), ds = [tI f, .int k] ∧ FOk f ∧ k.natAbs ≤ 400 ∧ ∀ v, Rw.Sh f k v → Big 300000 v → Ψ (.fz (tI v))
theorem l_shift_by : ∀ K w ds Ψ Ξ, c_shift_by K w ds Ψ Ξ → ds.length = 2 := fun K w ds Ψ Ξ h => by
  obtain ⟨_, _, rfl, _⟩ := h
  rfl
theorem ok_shift_by {P : Program} {w : World} {K : PySem.W.Frag} {mg : Str → Option Value} {base : Heap} {A : Ad} (T : Txt K mg A) : FnOk P w K mg base CX0 3 A.shift_by A.fd_shift_by ["factors", "k"] (SpD K AnyR c_shift_by) := by
  refine Fun.ok T.F_shift_by sc_shift_by (fun vs H Q E h => spd_len (l_shift_by) h) (fun cdv A' outer s H vs Q E hr h => ⟨_, (pss_cons (ps_set (i := 2) sc_shift_by.nd rfl (.inl rfl) (pe_call (ok_no_shift T) (hr.mono (by decide)) (by rfl) T.m_no_shift T.F_no_shift.kp (b_no_shift T) .nil pass0 (pa_cons (pe_callB call_len_seq (by rfl) T.b_len (by decide +kernel) (pa_cons (pv 0) pa_nil)) pa_nil)))
        (pss_cons (ps_set (i := 3) sc_shift_by.nd rfl (.inl rfl) (pe_ifExp (pt_cmpR op_gt (pv 1) pe_int (nomark _)) (pe_call (ok_shift_forward T) (hr.mono (by decide)) (by rfl) T.m_shift_forward T.F_shift_forward.kp (b_shift_forward T) .nil pass0 (pa_cons (pv 0) (pa_cons (pv 2) pa_nil))) (pe_call (ok_shift_back T) (hr.mono (by decide)) (by rfl) T.m_shift_back T.F_shift_back.kp (b_shift_back T) .nil pass0 (pa_cons (pv 0) (pa_cons (pv 2) pa_nil)))))
        (pss_cons (ps_set (i := 4) sc_shift_by.nd rfl (.inl rfl) (pv 2))
        (pss_cons (ps_set (i := 5) sc_shift_by.nd rfl (.inl rfl) (pe_callB call_abs (by rfl) T.b_abs (by decide +kernel) (pa_cons (pv 1) pa_nil)))
        (pss_cons (ps_while PassesOwn.never (pt_truth (pv 5) (by intro _; rfl)) (pss_cons (ps_if (pt_cmpR op_eq (pe_op op_mod (pv 5) pe_int) pe_int (nomark _)) (pss_one (ps_set (i := 4) sc_shift_by.nd rfl (.inl rfl) (pe_call (ok_shift_behind T) (hr.mono (by decide)) (by rfl) T.m_shift_behind T.F_shift_behind.kp (b_shift_behind T) .nil pass0 (pa_cons (pv 0) (pa_cons (pv 4) (pa_cons (pv 3) pa_nil)))))) pss_nil)
        (pss_cons (ps_aug (i := 5) sc_shift_by.nd rfl (.inl rfl) pe_int iop_fdiv)
        (pss_one (ps_if (pt_truth (pv 5) (by intro _; rfl)) (pss_one (ps_set (i := 3) sc_shift_by.nd rfl (.inl rfl) (pe_call (ok_shift_behind T) (hr.mono (by decide)) (by rfl) T.m_shift_behind T.F_shift_behind.kp (b_shift_behind T) .nil pass0 (pa_cons (pv 0) (pa_cons (pv 3) (pa_cons (pv 3) pa_nil)))))) pss_nil)))))
        (pss_one (ps_ret (pv 4)))))))), ?_⟩)
  refine body_ok 2 (by decide) (l_shift_by) h (fun Γ ds Ψ Ξ hK hX hF hc ke => ?_)
  subst hK
  obtain ⟨f, k, rfl, hf, hk, hc⟩ := hc
  have h8 := hf.len
  have hp := List.length_pos_iff.mpr hf.ne
  refine sw_seq ?_
  walk_at "ru"
  refine ⟨by rw [List.length_map]; exact hp, by rw [List.length_map]; exact h8, ?_⟩
  rw [List.length_map]
  have hb0 : Big 1 (1 :: List.replicate (f.length - 1) 0) := big_cons (by decide) big_zero
  have hn := Rw.sh_none hf.ne
  generalize (1 : Int) :: List.replicate (f.length - 1) (0 : Int) = st at hb0 hn ⊢
  refine sw_cut (fun ρ => ∃ (v : List Int) (b : Int), ρ = [some (.fz (tI f)), some (.fz (.int k)), some (.fz (tI st)), some (.fz (tI v)), none, none] ∧ Rw.Sh f b v ∧ Big 50 v ∧ b * k.natAbs = k) ?_ ?_
  · refine sw_asg (ew_if ?_)
    walk_at "rd"
    refine ⟨fun h1 => ?_, fun h1 => ?_⟩
    · walk_at "rd"
      refine ⟨hf, hn.len, big_mono hb0 (by decide), _, 1, rfl, ?_, big_mono (fwd_big hf.big hb0) (by decide), ?_⟩
      · have := Rw.sh_fwd hf.ne hn
        rwa [Int.zero_add] at this
      · have := of_decide_eq_true h1
        omega
    · walk_at "rd"
      refine ⟨hf, hn.len, big_mono hb0 (by decide), _, -1, rfl, ?_, big_mono (bck_big hf.big hb0) (by decide), ?_⟩
      · have := Rw.sh_bck hf.ne hf.unit hn
        rwa [Int.zero_sub] at this
      · have := of_decide_eq_false h1
        omega
  rintro ρ ⟨v, b, rfl, hv, bv, hbk⟩
  walk_at "rd"
  rw [abs_if]
  refine sw_seq (sw_while (fun m ρ => ∃ (l : Nat) (t s : List Int) (a b : Int) (bt bs : Nat), ρ = [some (.fz (tI f)), some (.fz (.int k)), some (.fz (tI st)), some (.fz (tI s)), some (.fz (tI t)), some (.fz (.int (l : Int)))] ∧ Rw.Sh f a t ∧ Rw.Sh f b s ∧ a + b * l = k ∧ Big bt t ∧ Big bs s ∧ bt + (bs + 176) * l ≤ 100000 ∧ l = m) k.natAbs ⟨k.natAbs, st, v, 0, b, 1, 50, rfl, hn, hv, by rw [Int.zero_add]; exact hbk, hb0, bv, by omega, rfl⟩ ?_)
  rintro m ρ ⟨l, t, s', a, b, bt, bs, rfl, ht, hs, hab, kt, ks, hz, rfl⟩
  refine tw_tru rfl (ew_var rfl ⟨_, rfl, fun h1 => ?_, fun h1 => ?_⟩)
  · have hl : 0 < l := by
      have h1 : ((l : Int) != 0) = true := h1
      simp at h1
      omega
    have hm := Nat.mul_le_mul_left (bs + 176) hl
    refine sw_cut (fun ρ => ∃ (t : List Int) (a : Int) (bt : Nat), ρ = [some (.fz (tI f)), some (.fz (.int k)), some (.fz (tI st)), some (.fz (tI s')), some (.fz (tI t)), some (.fz (.int (l : Int)))] ∧ Rw.Sh f a t ∧ a + b * (2 * (l / 2 : Nat) : Int) = k ∧ Big bt t ∧ bt + (bs + 176) * (2 * (l / 2)) ≤ 100000) ?_ ?_
    · refine sw_if ?_
      walk_at "rd"
      refine ⟨fun h2 => ?_, fun h2 => ?_⟩
      · have h2 := of_decide_eq_true h2
        have e : l = 2 * (l / 2) + 1 := by omega
        walk_at "rd"
        refine ⟨hf, ht.len, hs.len, big_mono kt (by omega), big_mono ks (by omega), _, a + b, bt + bs + 176, rfl, Rw.sh_bhd hf.ne ht hs, ?_, ?_, ?_⟩
        · have e2 : (l : Int) = 2 * (l / 2 : Nat) + 1 := by omega
          rw [e2] at hab
          grind
        · refine big_mono (bhd_big hf.big kt ks) ?_
          have h8' : s'.length ≤ 8 := by rw [hs.len]; exact h8
          omega
        · have e3 : (bs + 176) * l = (bs + 176) * (2 * (l / 2)) + (bs + 176) := by
            rw [← Nat.mul_succ]
            exact congrArg _ e
          omega
      · have h2 := of_decide_eq_false h2
        have e : l = 2 * (l / 2) := by omega
        walk_at "rd"
        refine ⟨t, a, bt, rfl, ht, ?_, kt, ?_⟩
        · have e2 : (l : Int) = 2 * (l / 2 : Nat) := by omega
          rw [← e2]
          exact hab
        · rw [← e]
          exact hz
    rintro ρ ⟨t, a, bt, rfl, ht, hab, kt, hz'⟩
    refine sw_seq (sw_augV ⟨_, rfl, ew_int ⟨_, opv_intC ⟨by decide, by decide⟩, ?_⟩⟩)
    have e5 : (l : Int) / 2 = ((l / 2 : Nat) : Int) := by omega
    rw [e5]
    refine sw_if (tw_tru rfl (ew_var rfl ⟨_, rfl, fun h3 => ?_, fun h3 => ?_⟩))
    · walk_at "rd"
      refine ⟨hf, hs.len, hs.len, big_mono ks (by omega), big_mono ks (by omega), _, ?_, l / 2, t, _, a, b + b, bt, bs + bs + 176, rfl, ht, Rw.sh_bhd hf.ne hs hs, ?_, kt, ?_, ?_, rfl⟩
      · omega
      · grind
      · refine big_mono (bhd_big hf.big ks ks) ?_
        have h8' : s'.length ≤ 8 := by rw [hs.len]; exact h8
        omega
      · have e6 : (bs + bs + 176 + 176) * (l / 2) = (bs + 176) * (2 * (l / 2)) := by
          rw [← Nat.mul_assoc]
          congr 1
          omega
        rw [e6]
        exact hz'
    · have h3 : (((l / 2 : Nat) : Int) != 0) = false := h3
      have h4 : l / 2 = 0 := by
        simp at h3
        omega
      rw [h4] at hab hz' ⊢
      refine sw_next ⟨0, by omega, 0, t, s', a, b, bt, bs, rfl, ht, hs, ?_, kt, ks, ?_, rfl⟩
      · simpa using hab
      · simpa using hz'
  · have h1 : ((l : Int) != 0) = false := h1
    have hl : l = 0 := by
      simp at h1
      omega
    subst hl
    have e : a = k := by simpa using hab
    subst e
    refine sw_next ?_
    walk_at "rd"
    exact hc t ht (big_mono kt (by omega))
/-- the terms of a row backwards -/
def bterms (f S : List Int) (n : Nat) : List Int := (List.range n).map fun (i : Nat) => Rw.sq f S (-(i : Int))
theorem T_pred {f S : List Int} : ∀ i : Nat, Rw.T f S (-((i + 1 : Nat) : Int)) = Rw.bw f (Rw.T f S (-(i : Int)))
  | 0 => rfl
  | i + 1 => rfl
abbrev c_window_back : Cn := fun K w ds Ψ Ξ => ∃ f U : List Int, ds = [tI f, tI U] ∧ FOk f ∧ U.length = f.length ∧ Big 300000 U ∧ Ψ (.fz (tI (Rw.bw f U)))
theorem l_window_back : ∀ K w ds Ψ Ξ, c_window_back K w ds Ψ Ξ → ds.length = 2 := fun K w ds Ψ Ξ h => by
  obtain ⟨_, _, rfl, _⟩ := h
  rfl
theorem ok_window_back {P : Program} {w : World} {K : PySem.W.Frag} {mg : Str → Option Value} {base : Heap} {A : Ad} (T : Txt K mg A) : FnOk P w K mg base CX0 2 A.window_back A.fd_window_back ["factors", "window"] (SpD K AnyR c_window_back) := by
  refine Fun.ok T.F_window_back sc_window_back (fun vs H Q E h => spd_len (l_window_back) h) (fun cdv A' outer s H vs Q E hr h => ⟨_, (pss_cons (ps_set (i := 2) sc_window_back.nd rfl (.inl rfl) (pe_call (ok_sum_of_products T) (hr.mono (by decide)) (by rfl) T.m_sum_of_products T.F_sum_of_products.kp (b_sum_of_products T) .nil pass0 (pa_cons (pe_slice sl_tupA (pv 0) (po_some pe_int) po_none) (pa_cons (pe_slice sl_tupA (pv 1) po_none (po_some (pe_un un_neg pe_int))) pa_nil))))
        (pss_one (ps_ret (pe_op op_catA (pe_tup (pa_cons (pe_op op_mulW (pe_ix ix_tup (pv 0) pe_int (fun _ _ => rfl)) (pe_op op_sub (pe_ix ix_tup (pv 1) (pe_un un_neg pe_int) (fun _ _ => rfl)) (pv 2))) pa_nil)) (pe_slice sl_tupA (pv 1) po_none (po_some (pe_un un_neg pe_int))))))), ?_⟩)
  refine body_ok 2 (by decide) (l_window_back) h (fun Γ ds Ψ Ξ hK hX hF hc ke => ?_)
  subst hK
  obtain ⟨f, U, rfl, hf, hl, bU, hc⟩ := hc
  have h8 := hf.len
  have hp := List.length_pos_iff.mpr hf.ne
  have hU : U ≠ [] := fun e => by rw [e] at hl; simp at hl; omega
  refine sw_seq ?_
  walk_at "ru"
  rw [cut_one, cut_init]
  refine ⟨f.tail, U.dropLast, rfl, by rw [List.length_tail, List.length_dropLast, hl], by rw [List.length_tail]; omega, big_mono (big_tail hf.big) (by decide), big_mono (big_dl bU) (by decide), ?_⟩
  walk_at "rd"
  refine ⟨_, opv_ixT rfl (at_head hf.ne), ?_⟩
  walk_at "rd"
  refine ⟨_, opv_ixT rfl (at_end hU), ?_⟩
  walk_at "rd"
  have hbd : (U.getD (U.length - 1) 0 - Rw.dot f.tail U.dropLast).natAbs < 2 ^ 300100 := by
    have h1 := dot_big (big_tail hf.big) (big_dl bU) (tl_len 8 hf.len)
    have h2 := pow_up (big_getD bU (U.length - 1)) (show 300000 ≤ 20 + 300000 + 4 by decide)
    have := add_bd h2 (b := - Rw.dot f.tail U.dropLast) (by rw [Int.natAbs_neg]; exact h1)
    rw [← Int.sub_eq_add_neg] at this
    exact pow_up this (by decide)
  refine ⟨_, opv_intC (mwG (big_headD hf.big) hbd (by decide)), ?_⟩
  walk_at "rd"
  rw [cut_init]
  refine ⟨_, _, rfl, rfl, ?_, ?_⟩
  · rw [List.length_map, List.length_dropLast]
    show 1 + _ ≤ 100000
    omega
  · exact hc
abbrev c_terms_back : Cn := fun K w ds Ψ Ξ => ∃ (f S : List Int) (n : Nat), ds = [tI f, tI S, .int n] ∧ FOk f ∧ S.length = f.length ∧ Big 1000 S ∧ n ≤ 100 ∧ Ψ (.fz (tI (bterms f S n)))
theorem T_ne {f S : List Int} (hS : S ≠ []) (n : Int) : Rw.T f S n ≠ [] := fun e => by
  have := Rw.T_len (f := f) hS n
  rw [e] at this
  exact hS (List.eq_nil_of_length_eq_zero this.symm)
theorem l_terms_back : ∀ K w ds Ψ Ξ, c_terms_back K w ds Ψ Ξ → ds.length = 3 := fun K w ds Ψ Ξ h => by
  obtain ⟨_, _, _, rfl, _⟩ := h
  rfl
theorem ok_terms_back {P : Program} {w : World} {K : PySem.W.Frag} {mg : Str → Option Value} {base : Heap} {A : Ad} (T : Txt K mg A) : FnOk P w K mg base CX0 3 A.terms_back A.fd_terms_back ["factors", "window", "many"] (SpD K AnyR c_terms_back) := by
  refine Fun.ok T.F_terms_back sc_terms_back (fun vs H Q E h => spd_len (l_terms_back) h) (fun cdv A' outer s H vs Q E hr h => ⟨_, (pss_cons (ps_set (i := 3) sc_terms_back.nd rfl (.inl rfl) (pe_lst pa_nil))
        (pss_cons (ps_for PassesOwn.never rfl (pi_range1 (by rfl) T.b_range (pa_cons (pv 2) pa_nil)) (pg_name (i := 4) sc_terms_back.nd rfl (.inl rfl)) (pss_cons (ps_expr (pe_bm PySem.F.plainAttrs_list PySem.F.slot_list_append PySem.F.type_list_append mt_append (pv 3) (pa_cons (pe_ix ix_tup (pv 1) pe_int (fun _ _ => rfl)) pa_nil)))
        (pss_one (ps_set (i := 1) sc_terms_back.nd rfl (.inl rfl) (pe_call (ok_window_back T) (hr.mono (by decide)) (by rfl) T.m_window_back T.F_window_back.kp (b_window_back T) .nil pass0 (pa_cons (pv 0) (pa_cons (pv 1) pa_nil)))))))
        (pss_one (ps_ret (pe_callTy call_tuple_of (by rfl) T.b_tuple (by decide +kernel) (pa_cons (pv 3) pa_nil)))))), ?_⟩)
  refine body_ok 3 (by decide) (l_terms_back) h (fun Γ ds Ψ Ξ hK hX hF hc ke => ?_)
  subst hK
  obtain ⟨f, S, n, rfl, hf, hl, bS, hn, hc⟩ := hc
  have h8 := hf.len
  have hp := List.length_pos_iff.mpr hf.ne
  have hS : S ≠ [] := fun e => by rw [e] at hl; simp at hl; omega
  refine sw_seq (sw_asgB (eb_lst (aw_nil ⟨by decide, ?_⟩)))
  refine sw_seq (sw_forR (aw_cons (ew_var rfl (aw_nil ⟨_, rfl, by omega, fun i ρ => ∃ c4, ρ = [some (.fz (tI f)), some (.fz (tI (Rw.T f S (-(i : Int))))), some (.fz (.int n)), some (.ow (.lst ((bterms f S i).map D.int))), c4], ⟨_, rfl⟩, ?_, ?_⟩))))
  · rintro i ρ2 hi ⟨c4, rfl⟩
    refine ⟨_, gd_name, ?_⟩
    have hln : (bterms f S i).length = i := by
      unfold bterms
      rw [List.length_map, List.length_range]
    refine sw_seq (sw_app rfl ?_)
    walk_at "rd"
    refine ⟨_, opv_ixT rfl (at_head (T_ne hS _)), ?_⟩
    refine ⟨_, rfl, by rw [List.length_map, hln]; omega, ?_⟩
    walk_at "rd"
    refine ⟨hf, by rw [Rw.T_len hS, hl], big_mono (T_big hf bS _) (by omega), some (.fz (.int i)), ?_⟩
    rw [T_pred]
    have e : (bterms f S (i + 1)).map D.int = (bterms f S i).map D.int ++ [.int ((Rw.T f S (-(i : Int))).headD 0)] := by
      unfold bterms
      rw [List.range_succ, List.map_append, List.map_append]
      rfl
    rw [e]
    rfl
  · rintro ρ2 ⟨c4, rfl⟩
    refine sw_ret (ew_tupO rfl rfl ?_)
    rw [Int.toNat_natCast]
    exact hc
/-- the factors of the row read the other way -/
def turnF (f : List Int) : List Int := f.headD 0 :: f.tail.reverse.map fun x => -f.headD 0 * x
abbrev c_turned_factors : Cn := fun K w ds Ψ Ξ => ∃ f : List Int, ds = [tI f] ∧ FOk f ∧ Ψ (.fz (tI (turnF f)))
theorem l_turned_factors : ∀ K w ds Ψ Ξ, c_turned_factors K w ds Ψ Ξ → ds.length = 1 := fun K w ds Ψ Ξ h => by
  obtain ⟨_, rfl, _⟩ := h
  rfl
theorem ok_turned_factors {P : Program} {w : World} {K : PySem.W.Frag} {mg : Str → Option Value} {base : Heap} {A : Ad} (T : Txt K mg A) : FnOk P w K mg base CX0 1 A.turned_factors A.fd_turned_factors ["factors"] (SpD K AnyR c_turned_factors) := by
  refine Fun.ok T.F_turned_factors sc_turned_factors (fun vs H Q E h => spd_len (l_turned_factors) h) (fun cdv A' outer s H vs Q E hr h => ⟨_, (pss_cons (ps_set (i := 1) sc_turned_factors.nd rfl (.inr rfl) (pe_ix ix_tup (pv 0) pe_int (fun _ _ => rfl)))
        (pss_one (ps_ret (pe_op op_catA (pe_tup (pa_cons (pv 1) pa_nil)) (pe_callTy call_tuple_of (by rfl) T.b_tuple (by decide +kernel) (pa_cons (pe_lc (own := [("factor", 2)]) (by rfl) sc_turned_factors.nd (RT.pi_revA (by rfl) T.b_reversed (pe_slice sl_tupA (pv 0) (po_some pe_int) po_none)) (blkOk_by (own := [("factor", 2)]) (N := ["factors", "head", "factor"]) (sc := defScope s_turned_factors) (by decide +kernel)) (fun _ _ _ _ _ => (pg_name (i := 2) sc_turned_factors.nd rfl (.inl rfl))) (fun _ _ _ _ _ => pts_nil) (fun _ _ _ _ _ => (pe_op op_mul (pe_un un_neg (pv 1)) (pv 2)))) pa_nil)))))), ?_⟩)
  refine body_ok 1 (by decide) (l_turned_factors) h (fun Γ ds Ψ Ξ hK hX hF hc ke => ?_)
  subst hK
  obtain ⟨f, rfl, hf, hc⟩ := hc
  have h8 := hf.len
  walk_at "rd"
  refine ⟨_, opv_ixT rfl (at_head hf.ne), ?_⟩
  walk_at "rd"
  refine ew_of_eb (eb_mapV rfl rfl ?_)
  walk_at "rd"
  rw [cut_one, ← List.map_reverse]
  refine ⟨(fun es z => by cases z), by rw [List.length_map, List.length_reverse, List.length_tail]; omega, scF (-f.headD 0), fun x hx c => ?_, ?_⟩
  · obtain ⟨y, hy, rfl⟩ := List.mem_map.mp hx
    walk_at "rd"
    have hh : (-f.headD 0).natAbs < 2 ^ 20 := by
      rw [Int.natAbs_neg]
      exact big_headD hf.big
    refine ⟨_, opv_intC (.inl ?_), rfl, rfl⟩
    have : (2 : Nat) ^ 20 = 1048576 := by decide
    omega
  · rw [sc_all]
    walk_at "rd"
    refine ⟨_, _, rfl, rfl, ?_, ?_⟩
    · rw [List.length_map, List.length_map, List.length_reverse, List.length_tail]
      show 1 + _ ≤ 100000
      omega
    · exact hc
def botF (f : List Int) : List Int := 1 :: f.reverse.map fun x => -x
abbrev c_bottom_row : Cn := fun K w ds Ψ Ξ => ∃ f : List Int, ds = [tI f] ∧ f.length ≤ 1000 ∧ Ψ (.fz (tI (botF f)))
theorem l_bottom_row : ∀ K w ds Ψ Ξ, c_bottom_row K w ds Ψ Ξ → ds.length = 1 := fun K w ds Ψ Ξ h => by
  obtain ⟨_, rfl, _⟩ := h
  rfl
theorem ok_bottom_row {P : Program} {w : World} {K : PySem.W.Frag} {mg : Str → Option Value} {base : Heap} {A : Ad} (T : Txt K mg A) : FnOk P w K mg base CX0 1 A.bottom_row A.fd_bottom_row ["factors"] (SpD K AnyR c_bottom_row) := by
  refine Fun.ok T.F_bottom_row sc_bottom_row (fun vs H Q E h => spd_len (l_bottom_row) h) (fun cdv A' outer s H vs Q E hr h => ⟨_, (pss_one (ps_ret (pe_op op_catA (pe_tup (pa_cons pe_int pa_nil)) (pe_callTy call_tuple_of (by rfl) T.b_tuple (by decide +kernel) (pa_cons (pe_lc (own := [("factor", 1)]) (by rfl) sc_bottom_row.nd (RT.pi_revA (by rfl) T.b_reversed (pv 0)) (blkOk_by (own := [("factor", 1)]) (N := ["factors", "factor"]) (sc := defScope s_bottom_row) (by decide +kernel)) (fun _ _ _ _ _ => (pg_name (i := 1) sc_bottom_row.nd rfl (.inl rfl))) (fun _ _ _ _ _ => pts_nil) (fun _ _ _ _ _ => (pe_un un_neg (pv 1)))) pa_nil))))), ?_⟩)
  refine body_ok 1 (by decide) (l_bottom_row) h (fun Γ ds Ψ Ξ hK hX hF hc ke => ?_)
  subst hK
  obtain ⟨f, rfl, hf, hc⟩ := hc
  walk_at "rd"
  refine ew_of_eb (eb_mapV rfl rfl ?_)
  walk_at "rd"
  rw [← List.map_reverse]
  refine ⟨(fun es z => by cases z), by rw [List.length_map, List.length_reverse]; omega, negF, fun x hx c => ?_, ?_⟩
  · obtain ⟨y, hy, rfl⟩ := List.mem_map.mp hx
    walk_at "rd"
    exact ⟨rfl, rfl⟩
  · rw [neg_all]
    walk_at "rd"
    refine ⟨_, _, rfl, rfl, ?_, ?_⟩
    · rw [List.length_map, List.length_map, List.length_reverse]
      show 1 + _ ≤ 100000
      omega
    · exact hc
end Pf

namespace Pf
open PySem L2 Dl Sh
open Evl (Ex)
open Ry
local macro_rules | `(tactic| walk_at "r0") => `(tactic| with_reducible first
  | refine sw_seq ?_
  | refine ew_var rfl ?_
  | refine ew_int ?_
  | refine ew_bl ?_
  | refine ew_non ?_
  | refine ew_str ?_
  | refine aw_cons ?_
  | refine aw_nil ?_
  | refine sw_par ?_
  | refine sw_next ?_
  | refine sw_if ?_
  | refine sw_ret ?_
  | refine tw_not ?_
  | refine tw_and ?_
  | refine tw_or ?_
  | refine tw_test ?_
  | refine tw_B ?_
  | refine tw_tru rfl ?_
  | refine ew_andV ?_
  | refine ew_orV ?_
  | refine ew_notV ?_
  | refine ew_if ?_
  | refine ew_chain ?_
  | refine ew_isN ?_
  | refine ew_tup ?_
  | refine ew_lst ?_
  | refine ew_isiD isN_int rfl ?_
  | refine ew_isiD isN_bool rfl ?_
  | refine ew_isiD isN_tuple rfl ?_
  | refine ew_isiD isN_list rfl ?_
  | refine ew_isiD isN_str rfl ?_
  | refine ew_isi2D isN_list isN_tuple rfl ?_
  | refine ew_isi2D isN_tuple isN_list rfl ?_
  | refine ew_cb ?_
  | refine ew_neg ?_
  | refine ew_op ?_
  | refine ⟨_, opv_int, ?_⟩
  | refine ⟨_, opv_cmp, ?_⟩
  | refine ⟨_, opv_eq, ?_⟩
  | refine ⟨_, opv_ne, ?_⟩
  | refine ⟨_, opv_eqB, ?_⟩
  | refine ⟨_, opv_eqS, ?_⟩
  | refine ⟨_, cbv_abs, ?_⟩
  | refine ⟨_, cbv_max2, ?_⟩
  | refine ⟨_, cbv_min2, ?_⟩
  | refine pw_none ?_
  | refine pw_some ?_
  | refine ⟨_, cbv_int, ?_⟩
  | refine ⟨_, rfl, ?_⟩
  | refine ⟨_, _, rfl, ?_⟩
  | refine ⟨_, _, _, rfl, ?_⟩
  | refine ⟨_, _, _, _, rfl, ?_⟩
  | refine br_t ?_
  | refine br_f ?_
  | refine ⟨dt_int, ?_⟩
  | refine ⟨dt_bl, ?_⟩
  | refine ⟨dt_str, ?_⟩
  | refine ⟨dt_non, ?_⟩
  | refine ⟨dt_tup, ?_⟩
  | refine ⟨dt_lst, ?_⟩
  | refine sw_asg ?_
  | refine sw_drop ?_)
local macro_rules | `(tactic| walk_at "r1") => `(tactic| first
  | ((with_reducible refine ew_tupL ?hK ?_); (case hK => rfl))
  | ((with_reducible refine ew_catT ?hK ?_); (case hK => rfl))
  | ((with_reducible refine ew_repT ?hK ?_); (case hK => rfl))
  | ((with_reducible refine ew_of_eb (eb_listL ?hK ?_)); (case hK => rfl))
  | ((with_reducible refine ew_of_eb (eb_cutL ?hK ?_)); (case hK => rfl))
  | walk_at "r0"
  | ((with_reducible refine ew_of_eb (eb_mapT ?hV ?hK ?_)); (case hK => rfl); (case hV => rfl))
  | ((with_reducible refine ew_of_eb (eb_mapL ?hV ?hK ?_)); (case hK => rfl); (case hV => rfl))
  | ((with_reducible refine ew_of_eb (eb_mapR ?hV ?_)); (case hV => rfl))
  | ((with_reducible refine ew_callP ?hK trivial ?_); (case hK => rfl))
  | ((with_reducible refine ew_callW ?hK trivial ?_); (case hK => rfl))
  | ((with_reducible refine ew_callH ?hK trivial ?_); (case hK => rfl))
  | ((with_reducible refine ew_callR ?hK ?hF ?_); (case hK => rfl); (case hF => assumption))
  | ((with_reducible refine len_ok ?hK ?_); (case hK => rfl))
  | ((with_reducible refine ew_notT ?hK ?_); (case hK => rfl))
  | ((with_reducible refine ew_cutT ?hK ?_); (case hK => rfl))
  | ((with_reducible refine ⟨(?hK : Dt _ _), ?_⟩); (case hK => assumption))
  | ((with_reducible refine sw_unp2 ?hK ?hn ?_); (case hK => rfl); (case hn => rfl)))
local macro_rules | `(tactic| walk_at "side") => `(tactic| first
  | exact Or.inr (by decide)
  | exact Or.inl (by decide)
  | exact ⟨by decide, by decide⟩
  | exact ⟨by decide, by decide, by decide⟩
  | decide
  | (dsimp only; decide)
  | exact mw (by assumption) (by assumption))
local macro_rules | `(tactic| walk_at "r2") => `(tactic| first
  | walk_at "r1"
  | ((with_reducible refine ⟨_, opv_intC ?hC, ?_⟩); (case hC => walk_at "side"))
  | ((with_reducible refine ⟨_, cbv_lenL ?hK, ?_⟩); (case hK => rfl))
  | ((with_reducible refine ⟨_, cbv_allM ?hK, ?_⟩); (case hK => rfl))
  | ((with_reducible refine ⟨_, cbv_anyM ?hK, ?_⟩); (case hK => rfl))
  | ((with_reducible refine ⟨_, cbv_sumM ?hK, ?_⟩); (case hK => rfl))
  | ((with_reducible refine ⟨_, cbv_lenT ?hK, ?_⟩); (case hK => rfl))
  | (with_reducible refine ⟨_, opv_ixT (by with_unfolding_all rfl) (by with_unfolding_all rfl), ?_⟩)
  | refine br_t ?_
  | refine br_f ?_)
local macro_rules | `(tactic| walk_at "rd") => `(tactic| repeat (walk_at "r2"))
local macro_rules | `(tactic| walk_at "rs") => `(tactic| repeat ((fail_if_success (with_reducible refine sw_isif ?_)); walk_at "r2"))
local macro_rules | `(tactic| walk_at "nf") => `(tactic| (try simp only [List.set_cons_zero, List.set_cons_succ, Dl.sets, Dl.asD]))
local macro_rules | `(tactic| walk_at "ru") => `(tactic| repeat ((fail_if_success (with_reducible refine sw_seq ?_)); walk_at "r2"))

/-! the product of two rows, cut -/
theorem item_mp {α β : Type} {f : α → β} {ps : List α} {i : Nat} {y : β} (h : (ps.map f)[i]? = some y) : ∃ q, ps[i]? = some q ∧ y = f q := by
  rw [List.getElem?_map] at h
  cases e : ps[i]? with
  | none =>
    rw [e] at h
    cases h
  | some q =>
    rw [e] at h
    exact ⟨q, rfl, (Option.some.inj h).symm⟩
def conv : List Int → List Int → Nat → Int
  | [], _, _ => 0
  | x :: a, b, k => x * b.getD k 0 + (match k with | 0 => 0 | k + 1 => conv a b k)
/-- what is at place k of a shifted row -/
def sft (i : Nat) (g : Nat → Int) (k : Nat) : Int := if i ≤ k then g (k - i) else 0
def rowI (n : Nat) (R : Nat → Int) : List Int := (List.range n).map R
theorem row_len {n : Nat} {R : Nat → Int} : (rowI n R).length = n := by
  unfold rowI
  rw [List.length_map, List.length_range]
theorem row_get {n p : Nat} {R : Nat → Int} (h : p < n) : (rowI n R).getD p 0 = R p := by
  unfold rowI
  rw [List.getD_eq_getElem?_getD, List.getElem?_map, List.getElem?_range h]
  rfl
theorem row_set {n p : Nat} {R : Nat → Int} {v : Int} : (rowI n R).set p v = rowI n fun k => if k = p then v else R k := by
  unfold rowI
  apply List.ext_getElem?
  intro k
  rw [List.getElem?_set]
  by_cases hk : k < n
  · rw [List.length_map, List.length_range, List.getElem?_map, List.getElem?_map, List.getElem?_range hk]
    by_cases e : p = k
    · subst e
      rw [if_pos rfl, if_pos hk]
      show _ = some (if p = p then v else R p)
      rw [if_pos rfl]
    · rw [if_neg e]
      show _ = some (if k = p then v else R k)
      rw [if_neg (Ne.symm e)]
      rfl
  · have e2 : ∀ {g : Nat → Int}, ((List.range n).map g)[k]? = none := fun {g} => List.getElem?_eq_none (by rw [List.length_map, List.length_range]; omega)
    rw [e2, e2]
    split
    · rw [if_neg (by rw [List.length_map, List.length_range]; omega)]
    · rfl
theorem row_zero {n : Nat} : List.replicate n (0 : Int) = rowI n fun _ => 0 := by
  unfold rowI
  rw [List.map_const', List.length_range]
theorem row_congr {n : Nat} {R R' : Nat → Int} (h : ∀ k, R k = R' k) : rowI n R = rowI n R' := by
  rw [show R = R' from funext h]
theorem row_out {n p : Nat} {R : Nat → Int} {v : Int} (h : n ≤ p) : (rowI n fun k => if k = p then v else R k) = rowI n R := by
  unfold rowI
  apply List.map_congr_left
  intro k hk
  rw [if_neg (by have := List.mem_range.mp hk; omega)]
theorem conv_nil {b : List Int} {k : Nat} : conv [] b k = 0 := rfl
theorem conv_cons {x : Int} {a b : List Int} {k : Nat} : conv (x :: a) b k = x * b.getD k 0 + sft 1 (conv a b) k := by
  cases k with
  | zero => rfl
  | succ k => rfl
theorem sft_sft {i : Nat} {g : Nat → Int} {k : Nat} : sft i (sft 1 g) k = sft (i + 1) g k := by
  unfold sft
  by_cases h : i + 1 ≤ k
  · rw [if_pos (by omega), if_pos (by omega), if_pos h]
    rfl
  · rw [if_neg h]
    split
    · rw [if_neg (by omega)]
    · rfl
theorem sft_add {i : Nat} {g h : Nat → Int} {k : Nat} : sft i (fun k => g k + h k) k = sft i g k + sft i h k := by
  unfold sft
  split <;> simp
theorem drop_get {a : List Int} {i : Nat} {x : Int} (h : a[i]? = some x) : a.drop i = x :: a.drop (i + 1) := by
  obtain ⟨hi, rfl⟩ := List.getElem?_eq_some_iff.mp h
  exact List.drop_eq_getElem_cons hi
/-- one step of the inner loop: what is still to come -/
theorem inn_step {b : List Int} {j p : Nat} {x y : Int} {R : Nat → Int} (h : b[j]? = some y) (k : Nat) : (if k = p then R p + x * y else R k) + x * sft (p + 1) (fun m => (b.drop (j + 1)).getD m 0) k = R k + x * sft p (fun m => (b.drop j).getD m 0) k := by
  rw [drop_get h]
  unfold sft
  by_cases e : k = p
  · subst e
    rw [if_pos rfl, if_neg (by omega), if_pos (Nat.le_refl _), Nat.sub_self]
    show R k + x * y + x * 0 = R k + x * y
    grind
  · rw [if_neg e]
    by_cases hk : p ≤ k
    · rw [if_pos (by omega), if_pos hk]
      have e2 : k - p = (k - (p + 1)) + 1 := by omega
      rw [e2]
      rfl
    · rw [if_neg (by omega), if_neg hk]
theorem out_step {a b : List Int} {i : Nat} {x : Int} (h : a[i]? = some x) (k : Nat) : sft i (conv (a.drop i) b) k = x * sft i (fun m => b.getD m 0) k + sft (i + 1) (conv (a.drop (i + 1)) b) k := by
  rw [drop_get h]
  have e : conv (x :: a.drop (i + 1)) b = fun k => x * b.getD k 0 + sft 1 (conv (a.drop (i + 1)) b) k := funext fun k => conv_cons
  rw [e, sft_add, sft_sft]
  congr 1
  unfold sft
  split <;> simp
theorem sft_nil {p k : Nat} {x : Int} {b : List Int} : x * sft p (fun m => (b.drop b.length).getD m 0) k = 0 := by
  rw [List.drop_length]
  unfold sft
  split <;> simp
theorem conv_all {a b : List Int} {i k : Nat} (h : a.length ≤ i) : sft i (conv (a.drop i) b) k = 0 := by
  rw [List.drop_of_length_le h]
  unfold sft
  split <;> rfl
abbrev c_product_below : Cn := fun K w ds Ψ Ξ => ∃ (a b : List Int) (n : Nat), ds = [tI a, tI b, .int n] ∧ a.length ≤ 1000 ∧ b.length ≤ 1000 ∧ n ≤ 100 ∧ Big 200 a ∧ Big 200 b ∧ Ψ (.fz (tI (rowI n (conv a b))))
theorem l_product_below : ∀ K w ds Ψ Ξ, c_product_below K w ds Ψ Ξ → ds.length = 3 := fun K w ds Ψ Ξ h => by
  obtain ⟨_, _, _, rfl, _⟩ := h
  rfl
theorem ok_product_below {P : Program} {w : World} {K : PySem.W.Frag} {mg : Str → Option Value} {base : Heap} {A : Ad} (T : Txt K mg A) : FnOk P w K mg base CX0 1 A.product_below A.fd_product_below ["one", "other", "many"] (SpD K AnyR c_product_below) := by
  refine Fun.ok T.F_product_below sc_product_below (fun vs H Q E h => spd_len (l_product_below) h) (fun cdv A' outer s H vs Q E hr h => ⟨_, (pss_cons (ps_set (i := 3) sc_product_below.nd rfl (.inl rfl) (pe_op op_rep (pe_lst (pa_cons pe_int pa_nil)) (pv 2)))
        (pss_cons (ps_for PassesOwn.never rfl (En.pi_enumT (by rfl) T.b_enumerate (pv 0)) (pg_tup (by rfl) (pgs_cons (pg_name (i := 4) sc_product_below.nd rfl (.inl rfl)) (pgs_cons (pg_name (i := 5) sc_product_below.nd rfl (.inl rfl)) pgs_nil))) (pss_one (ps_for PassesOwn.never rfl (En.pi_enumT (by rfl) T.b_enumerate (pv 1)) (pg_tup (by rfl) (pgs_cons (pg_name (i := 6) sc_product_below.nd rfl (.inl rfl)) (pgs_cons (pg_name (i := 7) sc_product_below.nd rfl (.inl rfl)) pgs_nil))) (pss_one (ps_if (pt_cmpR op_lt (pe_op op_add (pv 4) (pv 6)) (pv 2) (nomark _)) (pss_one (ps_augS (pv 3) (pe_op op_add (pv 4) (pv 6)) get_own (pe_op op_mulW (pv 5) (pv 7)) ip_add set_list)) pss_nil)))))
        (pss_one (ps_ret (pe_callTy call_tuple_of (by rfl) T.b_tuple (by decide +kernel) (pa_cons (pv 3) pa_nil)))))), ?_⟩)
  refine body_ok 3 (by decide) (l_product_below) h (fun Γ ds Ψ Ξ hK hX hF hc ke => ?_)
  subst hK
  obtain ⟨a, b, n, rfl, ha, hb, hn, ba, bb, hc⟩ := hc
  refine sw_seq (sw_asgB (eb_rep (aw_cons (ew_int (aw_nil ⟨by decide, fun c => ew_var rfl ⟨_, rfl, by omega, by show 1 * _ ≤ _; omega, ?_⟩⟩)))))
  rw [flat_rep1, Int.toNat_natCast]
  have e0 : List.replicate n (D.int 0) = (rowI n fun _ => 0).map D.int := by rw [← row_zero, List.map_replicate]
  rw [e0]
  refine sw_seq (sw_forE rfl (ew_var rfl ⟨_, rfl, fun i ρ => ∃ (R : Nat → Int) (c4 c5 c6 c7 : Option B), ρ = [some (.fz (tI a)), some (.fz (tI b)), some (.fz (.int n)), some (.ow (.lst ((rowI n R).map D.int))), c4, c5, c6, c7] ∧ ∀ k, R k + sft i (conv (a.drop i) b) k = conv a b k, ⟨_, none, none, none, none, rfl, fun k => ?_⟩, ?_, ?_⟩))
  · rw [List.drop_zero, Int.zero_add]
    rfl
  · rintro i x ρ2 hx ⟨R, c4, c5, c6, c7, rfl, hR⟩
    obtain ⟨x, hx', rfl⟩ := item_mp hx
    have hi : i < a.length := (List.getElem?_eq_some_iff.mp hx').1
    refine ⟨_, gd_pair rfl rfl gd_name gd_name, ?_⟩
    refine sw_forE rfl (ew_var rfl ⟨_, rfl, fun j ρ => ∃ (R' : Nat → Int) (c6 c7 : Option B), ρ = [some (.fz (tI a)), some (.fz (tI b)), some (.fz (.int n)), some (.ow (.lst ((rowI n R').map D.int))), some (.fz (.int i)), some (.fz (.int x)), c6, c7] ∧ ∀ k, R' k + x * sft (i + j) (fun m => (b.drop j).getD m 0) k = R k + x * sft i (fun m => b.getD m 0) k, ⟨_, _, _, rfl, fun k => ?_⟩, ?_, ?_⟩)
    · rw [List.drop_zero, Nat.add_zero]
    · rintro j y ρ2 hy ⟨R', c6, c7, rfl, hR'⟩
      obtain ⟨y, hy', rfl⟩ := item_mp hy
      have hj : j < b.length := (List.getElem?_eq_some_iff.mp hy').1
      refine ⟨_, gd_pair rfl rfl gd_name gd_name, ?_⟩
      walk_at "rd"
      refine ⟨fun h1 => ?_, fun h1 => ?_⟩
      · have h1 : (i : Int) + (j : Int) < n := of_decide_eq_true h1
        have hp : i + j < n := by omega
        refine sw_augI rfl rfl ?_
        walk_at "rd"
        refine ⟨rfl, by omega, by rw [row_len]; omega, ?_⟩
        walk_at "rd"
        refine ⟨_, opv_intC (mwG (ba _ (List.mem_of_getElem? hx')) (bb _ (List.mem_of_getElem? hy')) (by decide)), ?_⟩
        have ej : ((i : Int) + (j : Int)).toNat = i + j := by omega
        rw [ej, row_get hp]
        refine ⟨_, rfl, rfl, fun k => if k = i + j then R' (i + j) + x * y else R' k, some (.fz (.int j)), some (.fz (.int y)), ?_, fun k => ?_⟩
        · rw [← row_set]
          rfl
        · rw [← hR' k, ← inn_step (x := x) (p := i + j) (R := R') hy' k]
          rfl
      · have h1 : ¬ (i : Int) + (j : Int) < n := of_decide_eq_false h1
        refine sw_next ⟨fun k => if k = i + j then R' (i + j) + x * y else R' k, some (.fz (.int j)), some (.fz (.int y)), ?_, fun k => ?_⟩
        · rw [row_out (by omega)]
          rfl
        · rw [← hR' k, ← inn_step (x := x) (p := i + j) (R := R') hy' k]
          rfl
    · rintro ρ2 ⟨R', c6, c7, rfl, hR'⟩
      refine ⟨R', _, _, _, _, rfl, fun k => ?_⟩
      have e1 := hR' k
      rw [List.length_map, sft_nil] at e1
      rw [← hR k, out_step hx' k]
      grind
  · rintro ρ2 ⟨R, c4, c5, c6, c7, rfl, hR⟩
    refine sw_ret (ew_tupO rfl rfl ?_)
    have e : rowI n R = rowI n (conv a b) := row_congr fun k => by
      have := hR k
      rw [List.length_map, conv_all (Nat.le_refl _)] at this
      rw [← this, Int.add_zero]
    rw [e]
    exact hc
end Pf

namespace Pf
open PySem L2 Dl Sh
open Evl (Ex)
open Ry
local macro_rules | `(tactic| walk_at "r0") => `(tactic| with_reducible first
  | refine sw_seq ?_
  | refine ew_var rfl ?_
  | refine ew_int ?_
  | refine ew_bl ?_
  | refine ew_non ?_
  | refine ew_str ?_
  | refine aw_cons ?_
  | refine aw_nil ?_
  | refine sw_par ?_
  | refine sw_next ?_
  | refine sw_if ?_
  | refine sw_ret ?_
  | refine tw_not ?_
  | refine tw_and ?_
  | refine tw_or ?_
  | refine tw_test ?_
  | refine tw_B ?_
  | refine tw_tru rfl ?_
  | refine ew_andV ?_
  | refine ew_orV ?_
  | refine ew_notV ?_
  | refine ew_if ?_
  | refine ew_chain ?_
  | refine ew_isN ?_
  | refine ew_tup ?_
  | refine ew_lst ?_
  | refine ew_isiD isN_int rfl ?_
  | refine ew_isiD isN_bool rfl ?_
  | refine ew_isiD isN_tuple rfl ?_
  | refine ew_isiD isN_list rfl ?_
  | refine ew_isiD isN_str rfl ?_
  | refine ew_isi2D isN_list isN_tuple rfl ?_
  | refine ew_isi2D isN_tuple isN_list rfl ?_
  | refine ew_cb ?_
  | refine ew_neg ?_
  | refine ew_op ?_
  | refine ⟨_, opv_int, ?_⟩
  | refine ⟨_, opv_cmp, ?_⟩
  | refine ⟨_, opv_eq, ?_⟩
  | refine ⟨_, opv_ne, ?_⟩
  | refine ⟨_, opv_eqB, ?_⟩
  | refine ⟨_, opv_eqS, ?_⟩
  | refine ⟨_, cbv_abs, ?_⟩
  | refine ⟨_, cbv_max2, ?_⟩
  | refine ⟨_, cbv_min2, ?_⟩
  | refine pw_none ?_
  | refine pw_some ?_
  | refine ⟨_, cbv_int, ?_⟩
  | refine ⟨_, rfl, ?_⟩
  | refine ⟨_, _, rfl, ?_⟩
  | refine ⟨_, _, _, rfl, ?_⟩
  | refine ⟨_, _, _, _, rfl, ?_⟩
  | refine br_t ?_
  | refine br_f ?_
  | refine ⟨dt_int, ?_⟩
  | refine ⟨dt_bl, ?_⟩
  | refine ⟨dt_str, ?_⟩
  | refine ⟨dt_non, ?_⟩
  | refine ⟨dt_tup, ?_⟩
  | refine ⟨dt_lst, ?_⟩
  | refine sw_asg ?_
  | refine sw_drop ?_)
local macro_rules | `(tactic| walk_at "r1") => `(tactic| first
  | ((with_reducible refine ew_tupL ?hK ?_); (case hK => rfl))
  | ((with_reducible refine ew_catT ?hK ?_); (case hK => rfl))
  | ((with_reducible refine ew_repT ?hK ?_); (case hK => rfl))
  | ((with_reducible refine ew_of_eb (eb_listL ?hK ?_)); (case hK => rfl))
  | ((with_reducible refine ew_of_eb (eb_cutL ?hK ?_)); (case hK => rfl))
  | walk_at "r0"
  | ((with_reducible refine ew_of_eb (eb_mapT ?hV ?hK ?_)); (case hK => rfl); (case hV => rfl))
  | ((with_reducible refine ew_of_eb (eb_mapL ?hV ?hK ?_)); (case hK => rfl); (case hV => rfl))
  | ((with_reducible refine ew_of_eb (eb_mapR ?hV ?_)); (case hV => rfl))
  | ((with_reducible refine ew_callP ?hK trivial ?_); (case hK => rfl))
  | ((with_reducible refine ew_callW ?hK trivial ?_); (case hK => rfl))
  | ((with_reducible refine ew_callH ?hK trivial ?_); (case hK => rfl))
  | ((with_reducible refine ew_callR ?hK ?hF ?_); (case hK => rfl); (case hF => assumption))
  | ((with_reducible refine len_ok ?hK ?_); (case hK => rfl))
  | ((with_reducible refine ew_notT ?hK ?_); (case hK => rfl))
  | ((with_reducible refine ew_cutT ?hK ?_); (case hK => rfl))
  | ((with_reducible refine ⟨(?hK : Dt _ _), ?_⟩); (case hK => assumption))
  | ((with_reducible refine sw_unp2 ?hK ?hn ?_); (case hK => rfl); (case hn => rfl)))
local macro_rules | `(tactic| walk_at "side") => `(tactic| first
  | exact Or.inr (by decide)
  | exact Or.inl (by decide)
  | exact ⟨by decide, by decide⟩
  | exact ⟨by decide, by decide, by decide⟩
  | decide
  | (dsimp only; decide)
  | exact mw (by assumption) (by assumption))
local macro_rules | `(tactic| walk_at "r2") => `(tactic| first
  | walk_at "r1"
  | ((with_reducible refine ⟨_, opv_intC ?hC, ?_⟩); (case hC => walk_at "side"))
  | ((with_reducible refine ⟨_, cbv_lenL ?hK, ?_⟩); (case hK => rfl))
  | ((with_reducible refine ⟨_, cbv_allM ?hK, ?_⟩); (case hK => rfl))
  | ((with_reducible refine ⟨_, cbv_anyM ?hK, ?_⟩); (case hK => rfl))
  | ((with_reducible refine ⟨_, cbv_sumM ?hK, ?_⟩); (case hK => rfl))
  | ((with_reducible refine ⟨_, cbv_lenT ?hK, ?_⟩); (case hK => rfl))
  | (with_reducible refine ⟨_, opv_ixT (by with_unfolding_all rfl) (by with_unfolding_all rfl), ?_⟩)
  | refine br_t ?_
  | refine br_f ?_)
local macro_rules | `(tactic| walk_at "rd") => `(tactic| repeat (walk_at "r2"))
local macro_rules | `(tactic| walk_at "rs") => `(tactic| repeat ((fail_if_success (with_reducible refine sw_isif ?_)); walk_at "r2"))
local macro_rules | `(tactic| walk_at "nf") => `(tactic| (try simp only [List.set_cons_zero, List.set_cons_succ, Dl.sets, Dl.asD]))
local macro_rules | `(tactic| walk_at "ru") => `(tactic| repeat ((fail_if_success (with_reducible refine sw_seq ?_)); walk_at "r2"))

/-! the class Row -/
theorem ok_InvalidNumber__init {P : Program} {w : World} {K : PySem.W.Frag} {mg : Str → Option Value} {base : Heap} {A : Ad} (T : Txt K mg A) : FnOk P w K mg base CX0 1 A.InvalidNumber__init A.fd_InvalidNumber__init ["self", "value"] (spInit K A.c_InvalidNumber "value") := by
  refine T.F_InvalidNumber__init.ok sc_InvalidNumber__init (fun vs H Q E h => by obtain ⟨_, _, rfl, _⟩ := h; rfl) (fun cdv A' outer s H vs Q E hr h => ⟨_, (pss_one (ps_ost (pv 0) (pv 1))), body_init T.ox_InvalidNumber T.no_InvalidNumber_value rfl h⟩)
theorem ok_InvalidRow__init {P : Program} {w : World} {K : PySem.W.Frag} {mg : Str → Option Value} {base : Heap} {A : Ad} (T : Txt K mg A) : FnOk P w K mg base CX0 1 A.InvalidRow__init A.fd_InvalidRow__init ["self", "value"] (spInit K A.c_InvalidRow "value") := by
  refine T.F_InvalidRow__init.ok sc_InvalidRow__init (fun vs H Q E h => by obtain ⟨_, _, rfl, _⟩ := h; rfl) (fun cdv A' outer s H vs Q E hr h => ⟨_, (pss_one (ps_ost (pv 0) (pv 1))), body_init T.ox_InvalidRow T.no_InvalidRow_value rfl h⟩)
abbrev c_need_integer (A : Ad) : Cn := fun K w ds Ψ Ξ => ∃ d, ds = [d] ∧ Dt K d ∧ (isIntD d = true → Ψ (.fz .non)) ∧ (isIntD d = false → Ξ A.c_InvalidNumber "value" d)
theorem l_need_integer (A : Ad) : ∀ K w ds Ψ Ξ, (c_need_integer A) K w ds Ψ Ξ → ds.length = 1 := fun K w ds Ψ Ξ h => by
  obtain ⟨_, rfl, _⟩ := h
  rfl
theorem ok_need_integer {P : Program} {w : World} {K : PySem.W.Frag} {mg : Str → Option Value} {base : Heap} {A : Ad} (T : Txt K mg A) : FnOk P w K mg base (L2N.CX P w) 3 A.need_integer A.fd_need_integer ["k"] (SpD K AnyR (c_need_integer A)) := by
  refine okN T.F_need_integer sc_need_integer (fun vs H Q E h => spd_len (l_need_integer A) h) (fun cdv A' outer s H vs Q E hr h => ⟨_, (pss_one (ps_if (pt_not (pt_val (pe_call (ok_is_integer T) (hr.mono (by decide)) (by rfl) T.m_is_integer T.F_is_integer.kp (b_is_integer T) .nil pass0 (pa_cons (pv 0) pa_nil)))) (pss_one (L2N.ps_raise rfl (L2N.takes_of rfl rfl rfl rfl) (made_own T.ox_InvalidNumber T.i_InvalidNumber T.t_InvalidNumber (ok_InvalidNumber__init T) (hr.mono (by decide)) (b_InvalidNumber__init T) (fun _ _ _ _ _ _ _ h => h.elim) (by rfl) T.m_InvalidNumber (pa_cons (pv 0) pa_nil)))) pss_nil)), ?_⟩)
  refine body_ok 1 (by decide) (l_need_integer A) h (fun Γ ds Ψ Ξ hK hX hF hc ke => ?_)
  subst hK
  obtain ⟨d, rfl, hd, h1, h2⟩ := hc
  walk_at "rd"
  refine ⟨fun h3 => ?_, fun h3 => ?_⟩
  · refine sw_raiseE ke (fun _ _ _ _ x => x) ?_
    walk_at "rd"
    exact h2 (not_tt h3)
  · walk_at "rd"
    exact h1 (not_ff h3)
def headOk : D → Bool | .tup (.int a :: _) => decide (a.natAbs = 1) | _ => false
def lenD : D → Nat | .tup xs => xs.length | _ => 0
def isRowD (d e : D) : Bool := (isLstD d || isTupD d) && (isLstD e || isTupD e) && (areIntsD (frzD 4 d) && areIntsD (frzD 4 e) && decide (lenD (frzD 4 d) = lenD (frzD 4 e))) && headOk (frzD 4 d)
abbrev c_Row (A : Ad) : Cn := fun K w ds Ψ Ξ => ∃ d e, ds = [d, e] ∧ Dt K d ∧ Dt K e ∧ FzD K 4 d ∧ FzD K 4 e ∧ Dt1 K (frzD 4 d) ∧ Dt1 K (frzD 4 e) ∧ (isRowD d e = true → Ψ (.ow (.obj A.c_Row [("factors", frzD 4 d), ("first", frzD 4 e)]))) ∧ (isRowD d e = false → Ξ A.c_InvalidRow "value" (.tup [d, e]))
theorem l_Row__init (A : Ad) : ∀ K w ds Ψ Ξ, c_Row A K w ds Ψ Ξ → ds.length = 2 := fun K w ds Ψ Ξ h => by
  obtain ⟨_, _, rfl, _⟩ := h
  rfl
theorem ok_Row__init {P : Program} {w : World} {K : PySem.W.Frag} {mg : Str → Option Value} {base : Heap} {A : Ad} (T : Txt K mg A) : FnOk P w K mg base (L2N.CX P w) 7 A.Row__init A.fd_Row__init ["self", "factors", "first"] (SpI K A.c_Row (c_Row A)) := by
  refine okN T.F_Row__init sc_Row__init (fun vs H Q E h => spi_len (l_Row__init A) h) (fun cdv A' outer s H vs Q E hr h => ⟨_, (pss_cons (ps_if (PW.pt (pw_or (pt_not (pt_val (pe_call (ok_is_sequence T) (hr.mono (by decide)) (by rfl) T.m_is_sequence T.F_is_sequence.kp (b_is_sequence T) .nil pass0 (pa_cons (pv 1) pa_nil)))) (pw_or1 (pt_not (pt_val (pe_call (ok_is_sequence T) (hr.mono (by decide)) (by rfl) T.m_is_sequence T.F_is_sequence.kp (b_is_sequence T) .nil pass0 (pa_cons (pv 2) pa_nil))))))) (pss_one (L2N.ps_raise rfl (L2N.takes_of rfl rfl rfl rfl) (made_own T.ox_InvalidRow T.i_InvalidRow T.t_InvalidRow (ok_InvalidRow__init T) (hr.mono (by decide)) (b_InvalidRow__init T) (fun _ _ _ _ _ _ _ h => h.elim) (by rfl) T.m_InvalidRow (pa_cons (pe_tup (pa_cons (pv 1) (pa_cons (pv 2) pa_nil))) pa_nil)))) pss_nil)
        (pss_cons (ps_par (i := 3) (j := 4) (by rfl) sc_Row__init.nd rfl rfl (by decide) rfl rfl (pa_cons (pe_call (ok_frz T 4) (hr.mono (by decide)) (by rfl) T.m_frozen T.F_frozen.kp (b_frozen T) .nil pass0 (pa_cons (pv 1) pa_nil)) (pa_cons (pe_call (ok_frz T 4) (hr.mono (by decide)) (by rfl) T.m_frozen T.F_frozen.kp (b_frozen T) .nil pass0 (pa_cons (pv 2) pa_nil)) pa_nil)) (by rfl))
        (pss_cons (ps_if (PW.pt (pw_or (pt_not (pt_val (pe_call (ok_are_integers T) (hr.mono (by decide)) (by rfl) T.m_are_integers T.F_are_integers.kp (b_are_integers T) .nil pass0 (pa_cons (pv 3) pa_nil)))) (pw_or (pt_not (pt_val (pe_call (ok_are_integers T) (hr.mono (by decide)) (by rfl) T.m_are_integers T.F_are_integers.kp (b_are_integers T) .nil pass0 (pa_cons (pv 4) pa_nil)))) (pw_or1 (pt_cmpR op_ne (pe_callB call_len_seq (by rfl) T.b_len (by decide +kernel) (pa_cons (pv 3) pa_nil)) (pe_callB call_len_seq (by rfl) T.b_len (by decide +kernel) (pa_cons (pv 4) pa_nil)) (nomark _)))))) (pss_one (L2N.ps_raise rfl (L2N.takes_of rfl rfl rfl rfl) (made_own T.ox_InvalidRow T.i_InvalidRow T.t_InvalidRow (ok_InvalidRow__init T) (hr.mono (by decide)) (b_InvalidRow__init T) (fun _ _ _ _ _ _ _ h => h.elim) (by rfl) T.m_InvalidRow (pa_cons (pe_tup (pa_cons (pv 1) (pa_cons (pv 2) pa_nil))) pa_nil)))) pss_nil)
        (pss_cons (ps_if (PW.pt (pw_or (pt_not (pt_truth (pv 3) (by intro _; rfl))) (pw_or1 (pt_cmpR op_ne (pe_callB call_abs (by rfl) T.b_abs (by decide +kernel) (pa_cons (pe_ix ix_tup (pv 3) pe_int (fun _ _ => rfl)) pa_nil)) pe_int (nomark _))))) (pss_one (L2N.ps_raise rfl (L2N.takes_of rfl rfl rfl rfl) (made_own T.ox_InvalidRow T.i_InvalidRow T.t_InvalidRow (ok_InvalidRow__init T) (hr.mono (by decide)) (b_InvalidRow__init T) (fun _ _ _ _ _ _ _ h => h.elim) (by rfl) T.m_InvalidRow (pa_cons (pe_tup (pa_cons (pv 1) (pa_cons (pv 2) pa_nil))) pa_nil)))) pss_nil)
        (pss_cons (ps_fld (pv 0) (pv 3) rfl)
        (pss_one (ps_fld (pv 0) (pv 4) rfl))))))), ?_⟩)
  refine body_mk 2 (by decide) (l_Row__init A) h (fun Γ x dx ds Ψ Ξ hK hc ke => ?_)
  subst hK
  obtain ⟨d, e, rfl, hd, he, fd, fe, d1, e1, h1, h2⟩ := hc
  refine mk_pre (Ξ := Ξ) fun c => ?_
  walk_at "rd"
  refine ⟨fun h3 => br_t ?_, fun h3 => ?_⟩
  · refine sw_raiseE (ke _) (fun _ _ _ _ x => x) ?_
    walk_at "rd"
    exact h2 (by unfold isRowD; rw [not_tt h3]; rfl)
  have h3' := not_ff h3
  walk_at "rd"
  refine ⟨fun h4 => ?_, fun h4 => ?_⟩
  · refine sw_raiseE (ke _) (fun _ _ _ _ x => x) ?_
    walk_at "rd"
    exact h2 (by unfold isRowD; rw [not_tt h4, h3']; rfl)
  have h4' := not_ff h4
  walk_at "rd"
  refine mk_pre (Ξ := Ξ) fun c => ?_
  walk_at "rd"
  refine frz_in fd ?_
  walk_at "rd"
  refine frz_in fe ?_
  walk_at "rd"
  unfold isRowD at h1 h2
  generalize frzD 4 d = kd at *
  generalize frzD 4 e = ke' at *
  rw [h3', h4'] at h1 h2
  refine mk_pre (Ξ := Ξ) fun c => ?_
  walk_at "rd"
  refine ⟨d1, ?_⟩
  walk_at "rd"
  refine ⟨fun h5 => br_t ?_, fun h5 => ?_⟩
  · refine sw_raiseE (ke _) (fun _ _ _ _ x => x) ?_
    walk_at "rd"
    exact h2 (by rw [not_tt h5]; rfl)
  have h5' := not_ff h5
  rw [h5'] at h1 h2
  walk_at "rd"
  refine ⟨e1, ?_⟩
  walk_at "rd"
  refine ⟨fun h6 => br_t ?_, fun h6 => ?_⟩
  · refine sw_raiseE (ke _) (fun _ _ _ _ x => x) ?_
    walk_at "rd"
    exact h2 (by rw [not_tt h6]; rfl)
  have h6' := not_ff h6
  rw [h6'] at h1 h2
  obtain ⟨f, rfl⟩ := areInts_of h5'
  obtain ⟨S, rfl⟩ := areInts_of h6'
  have hlf : lenD (.tup (f.map D.int)) = f.length := by
    show (f.map D.int).length = _
    rw [List.length_map]
  have hlS : lenD (.tup (S.map D.int)) = S.length := by
    show (S.map D.int).length = _
    rw [List.length_map]
  rw [hlf, hlS] at h1 h2
  walk_at "rd"
  rw [List.length_map, List.length_map]
  refine ⟨fun h7 => ?_, fun h7 => ?_⟩
  · refine sw_raiseE (ke _) (fun _ _ _ _ x => x) ?_
    walk_at "rd"
    have hne0 : ¬ (f.length : Int) = (S.length : Int) := by simpa using h7
    have hne : ¬ f.length = S.length := by omega
    exact h2 (by rw [decide_eq_false hne]; rfl)
  have hl0 : (f.length : Int) = (S.length : Int) := by simpa using h7
  have hl : f.length = S.length := by omega
  rw [decide_eq_true hl] at h1 h2
  walk_at "rd"
  refine mk_pre (Ξ := Ξ) fun c => ?_
  cases f with
  | nil =>
    walk_at "rd"
    refine sw_raiseE (ke _) (fun _ _ _ _ x => x) ?_
    walk_at "rd"
    exact h2 rfl
  | cons a f =>
    walk_at "rd"
    refine ⟨_, opv_ixT rfl (at_head (xs := a :: f) (fun e => by cases e)), ?_⟩
    walk_at "rd"
    have hab : (if a < 0 then -a else a) = (a.natAbs : Int) := by split <;> omega
    refine ⟨fun h8 => ?_, fun h8 => ?_⟩
    · refine sw_raiseE (ke _) (fun _ _ _ _ x => x) ?_
      walk_at "rd"
      refine h2 ?_
      have h8 : (!decide ((if a < 0 then -a else a) = 1)) = true := h8
      rw [hab] at h8
      have hne0 : ¬ (a.natAbs : Int) = 1 := by simpa using h8
      have e : headOk (.tup ((a :: f).map D.int)) = false := decide_eq_false (by omega)
      rw [e]
      rfl
    · have h8 : (!decide ((if a < 0 then -a else a) = 1)) = false := h8
      rw [hab] at h8
      have h80 : (a.natAbs : Int) = 1 := by simpa using h8
      have e : headOk (.tup ((a :: f).map D.int)) = true := decide_eq_true (by omega)
      rw [e] at h1
      walk_at "rd"
      refine mk_fld (Ξ := Ξ) rfl T.cl_Row T.no_Row_factors (by decide) fun c => ?_
      walk_at "rd"
      refine ⟨rfl, mk_last (Ξ := Ξ) rfl T.cl_Row T.no_Row_first (Nat.le_of_ble_eq_true rfl) fun c => ?_⟩
      walk_at "rd"
      exact ⟨rfl, h1 rfl⟩
/-- a row as data -/
@[reducible] def rowD (A : Ad) (f S : List Int) : D := .obj A.c_Row [("factors", tI f), ("first", tI S)]
theorem row_fz {K : PySem.W.Frag} {f : List Int} {n : Nat} (h : f.length ≤ 99999) : FzD K (n + 1) (tI f) := .tup n _ (fun d hd => by
  obtain ⟨i, _, rfl⟩ := List.mem_map.mp hd
  exact .one n _ dt_int rfl rfl) (by rw [List.length_map]; exact h)
theorem row_fzL {K : PySem.W.Frag} {f : List Int} {n : Nat} (h : f.length ≤ 99999) : FzD K (n + 1) (.lst (f.map D.int)) := .lst n _ (fun d hd => by
  obtain ⟨i, _, rfl⟩ := List.mem_map.mp hd
  exact .one n _ dt_int rfl rfl) (by rw [List.length_map]; exact h)
theorem row_frz {f : List Int} {n : Nat} : frzD (n + 1) (tI f) = tI f := by
  show D.tup ((f.map D.int).map (frzD n)) = _
  rw [List.map_map]
  congr 1
  apply List.map_congr_left
  intro i _
  exact frz_one rfl rfl
theorem row_frzL {f : List Int} {n : Nat} : frzD (n + 1) (.lst (f.map D.int)) = tI f := by
  show D.tup ((f.map D.int).map (frzD n)) = _
  rw [List.map_map]
  congr 1
  apply List.map_congr_left
  intro i _
  exact frz_one rfl rfl
theorem row_dt1 {K : PySem.W.Frag} {f : List Int} (h : f.length ≤ 99999) : Dt1 K (tI f) := ⟨dt_tup, fun xs e => by
  cases e
  refine ⟨by rw [List.length_map]; exact h, fun x hx => ?_⟩
  obtain ⟨i, _, rfl⟩ := List.mem_map.mp hx
  exact dt_int⟩
theorem row_good {f S : List Int} {d e : D} (hf : FOk f) (hl : S.length = f.length) (hd : d = tI f ∨ d = .lst (f.map D.int)) (he : e = tI S ∨ e = .lst (S.map D.int)) : frzD 4 d = tI f ∧ frzD 4 e = tI S ∧ isRowD d e = true := by
  have e1 : frzD 4 d = tI f := by
    rcases hd with rfl | rfl
    · exact row_frz
    · exact row_frzL
  have e2 : frzD 4 e = tI S := by
    rcases he with rfl | rfl
    · exact row_frz
    · exact row_frzL
  refine ⟨e1, e2, ?_⟩
  unfold isRowD
  rw [e1, e2]
  have e3 : (isLstD d || isTupD d) = true := by rcases hd with rfl | rfl <;> rfl
  have e4 : (isLstD e || isTupD e) = true := by rcases he with rfl | rfl <;> rfl
  have hlf : lenD (tI f) = f.length := by
    show (f.map D.int).length = _
    rw [List.length_map]
  have hlS : lenD (tI S) = S.length := by
    show (S.map D.int).length = _
    rw [List.length_map]
  rw [e3, e4, hlf, hlS, areInts_row, areInts_row, decide_eq_true hl.symm]
  have hu := unit_abs hf.unit
  have hne := hf.ne
  cases f with
  | nil => exact absurd rfl hne
  | cons a f =>
    show (_ && decide (a.natAbs = 1)) = true
    rw [decide_eq_true (show a.natAbs = 1 from hu)]
    rfl
/-- a right row is made -/
theorem row_in {K : PySem.W.Frag} {A : Ad} {w : Addr} {f S : List Int} {d e : D} {Ψ : B → Prop} {Ξ : Addr → Str → D → Prop} (hf : FOk f) (hl : S.length = f.length) (hd : d = tI f ∨ d = .lst (f.map D.int)) (he : e = tI S ∨ e = .lst (S.map D.int)) (p : Ψ (.ow (.obj A.c_Row [("factors", tI f), ("first", tI S)]))) : c_Row A K w [d, e] Ψ Ξ := by
  obtain ⟨e1, e2, e3⟩ := row_good hf hl hd he
  have h8 := hf.len
  refine ⟨d, e, rfl, ?_, ?_, ?_, ?_, by rw [e1]; exact row_dt1 (by omega), by rw [e2]; exact row_dt1 (by omega), fun _ => by rw [e1, e2]; exact p, fun z => by rw [e3] at z; cases z⟩
  · rcases hd with rfl | rfl
    · exact dt_tup
    · exact dt_lst
  · rcases he with rfl | rfl
    · exact dt_tup
    · exact dt_lst
  · rcases hd with rfl | rfl
    · exact row_fz (by omega)
    · exact row_fzL (by omega)
  · rcases he with rfl | rfl
    · exact row_fz (by omega)
    · exact row_fzL (by omega)
end Pf

namespace Pf
open PySem L2 Dl Sh
open Evl (Ex)
open Ry
local macro_rules | `(tactic| walk_at "r0") => `(tactic| with_reducible first
  | refine sw_seq ?_
  | refine ew_var rfl ?_
  | refine ew_int ?_
  | refine ew_bl ?_
  | refine ew_non ?_
  | refine ew_str ?_
  | refine aw_cons ?_
  | refine aw_nil ?_
  | refine sw_par ?_
  | refine sw_next ?_
  | refine sw_if ?_
  | refine sw_ret ?_
  | refine tw_not ?_
  | refine tw_and ?_
  | refine tw_or ?_
  | refine tw_test ?_
  | refine tw_B ?_
  | refine tw_tru rfl ?_
  | refine ew_andV ?_
  | refine ew_orV ?_
  | refine ew_notV ?_
  | refine ew_if ?_
  | refine ew_chain ?_
  | refine ew_isN ?_
  | refine ew_tup ?_
  | refine ew_lst ?_
  | refine ew_isiD isN_int rfl ?_
  | refine ew_isiD isN_bool rfl ?_
  | refine ew_isiD isN_tuple rfl ?_
  | refine ew_isiD isN_list rfl ?_
  | refine ew_isiD isN_str rfl ?_
  | refine ew_isi2D isN_list isN_tuple rfl ?_
  | refine ew_isi2D isN_tuple isN_list rfl ?_
  | refine ew_cb ?_
  | refine ew_neg ?_
  | refine ew_op ?_
  | refine ⟨_, opv_int, ?_⟩
  | refine ⟨_, opv_cmp, ?_⟩
  | refine ⟨_, opv_eq, ?_⟩
  | refine ⟨_, opv_ne, ?_⟩
  | refine ⟨_, opv_eqB, ?_⟩
  | refine ⟨_, opv_eqS, ?_⟩
  | refine ⟨_, cbv_abs, ?_⟩
  | refine ⟨_, cbv_max2, ?_⟩
  | refine ⟨_, cbv_min2, ?_⟩
  | refine pw_none ?_
  | refine pw_some ?_
  | refine ⟨_, cbv_int, ?_⟩
  | refine ⟨_, rfl, ?_⟩
  | refine ⟨_, _, rfl, ?_⟩
  | refine ⟨_, _, _, rfl, ?_⟩
  | refine ⟨_, _, _, _, rfl, ?_⟩
  | refine br_t ?_
  | refine br_f ?_
  | refine ⟨dt_int, ?_⟩
  | refine ⟨dt_bl, ?_⟩
  | refine ⟨dt_str, ?_⟩
  | refine ⟨dt_non, ?_⟩
  | refine ⟨dt_tup, ?_⟩
  | refine ⟨dt_lst, ?_⟩
  | refine sw_asg ?_
  | refine sw_drop ?_)
local macro_rules | `(tactic| walk_at "r1") => `(tactic| first
  | ((with_reducible refine ew_tupL ?hK ?_); (case hK => rfl))
  | ((with_reducible refine ew_catT ?hK ?_); (case hK => rfl))
  | ((with_reducible refine ew_repT ?hK ?_); (case hK => rfl))
  | ((with_reducible refine ew_of_eb (eb_listL ?hK ?_)); (case hK => rfl))
  | ((with_reducible refine ew_of_eb (eb_cutL ?hK ?_)); (case hK => rfl))
  | walk_at "r0"
  | ((with_reducible refine ew_of_eb (eb_mapT ?hV ?hK ?_)); (case hK => rfl); (case hV => rfl))
  | ((with_reducible refine ew_of_eb (eb_mapL ?hV ?hK ?_)); (case hK => rfl); (case hV => rfl))
  | ((with_reducible refine ew_of_eb (eb_mapR ?hV ?_)); (case hV => rfl))
  | ((with_reducible refine ew_callP ?hK trivial ?_); (case hK => rfl))
  | ((with_reducible refine ew_callW ?hK trivial ?_); (case hK => rfl))
  | ((with_reducible refine ew_callH ?hK trivial ?_); (case hK => rfl))
  | ((with_reducible refine ew_callR ?hK ?hF ?_); (case hK => rfl); (case hF => assumption))
  | ((with_reducible refine len_ok ?hK ?_); (case hK => rfl))
  | ((with_reducible refine ew_notT ?hK ?_); (case hK => rfl))
  | ((with_reducible refine ew_cutT ?hK ?_); (case hK => rfl))
  | ((with_reducible refine ⟨(?hK : Dt _ _), ?_⟩); (case hK => assumption))
  | ((with_reducible refine sw_unp2 ?hK ?hn ?_); (case hK => rfl); (case hn => rfl)))
local macro_rules | `(tactic| walk_at "side") => `(tactic| first
  | exact Or.inr (by decide)
  | exact Or.inl (by decide)
  | exact ⟨by decide, by decide⟩
  | exact ⟨by decide, by decide, by decide⟩
  | decide
  | (dsimp only; decide)
  | exact mw (by assumption) (by assumption))
local macro_rules | `(tactic| walk_at "r2") => `(tactic| first
  | walk_at "r1"
  | ((with_reducible refine ⟨_, opv_intC ?hC, ?_⟩); (case hC => walk_at "side"))
  | ((with_reducible refine ⟨_, cbv_lenL ?hK, ?_⟩); (case hK => rfl))
  | ((with_reducible refine ⟨_, cbv_allM ?hK, ?_⟩); (case hK => rfl))
  | ((with_reducible refine ⟨_, cbv_anyM ?hK, ?_⟩); (case hK => rfl))
  | ((with_reducible refine ⟨_, cbv_sumM ?hK, ?_⟩); (case hK => rfl))
  | ((with_reducible refine ⟨_, cbv_lenT ?hK, ?_⟩); (case hK => rfl))
  | (with_reducible refine ⟨_, opv_ixT (by with_unfolding_all rfl) (by with_unfolding_all rfl), ?_⟩)
  | refine br_t ?_
  | refine br_f ?_)
local macro_rules | `(tactic| walk_at "rd") => `(tactic| repeat (walk_at "r2"))
local macro_rules | `(tactic| walk_at "rs") => `(tactic| repeat ((fail_if_success (with_reducible refine sw_isif ?_)); walk_at "r2"))
local macro_rules | `(tactic| walk_at "nf") => `(tactic| (try simp only [List.set_cons_zero, List.set_cons_succ, Dl.sets, Dl.asD]))
local macro_rules | `(tactic| walk_at "ru") => `(tactic| repeat ((fail_if_success (with_reducible refine sw_seq ?_)); walk_at "r2"))

/-- a row as it should be -/
structure ROk (f S : List Int) : Prop where
  fok : FOk f
  l : S.length = f.length
  b : Big 1000 S
abbrev c_Row__term (A : Ad) : Cn := fun K w ds Ψ Ξ => ∃ f S k, ds = [rowD A f S, k] ∧ Dt K k ∧ ROk f S ∧ (∀ i, k = .int i → i.natAbs ≤ 400 ∧ Ψ (.fz (.int (Rw.sq f S i)))) ∧ (isIntD k = false → Ξ A.c_InvalidNumber "value" k)
theorem l_Row__term (A : Ad) : ∀ K w ds Ψ Ξ, (c_Row__term A) K w ds Ψ Ξ → ds.length = 2 := fun K w ds Ψ Ξ h => by
  obtain ⟨_, _, _, rfl, _⟩ := h
  rfl
theorem ok_Row__term {P : Program} {w : World} {K : PySem.W.Frag} {mg : Str → Option Value} {base : Heap} {A : Ad} (T : Txt K mg A) : FnOk P w K mg base (L2N.CX P w) 4 A.Row__term A.fd_Row__term ["self", "k"] (SpD K AnyR (c_Row__term A)) := by
  refine okN T.F_Row__term sc_Row__term (fun vs H Q E h => spd_len (l_Row__term A) h) (fun cdv A' outer s H vs Q E hr h => ⟨_, (pss_cons (ps_expr (pe_call (ok_need_integer T) (hr.mono (by decide)) (by rfl) T.m_need_integer T.F_need_integer.kp (b_need_integer T) .nil (L2N.passes_call (L2N.takes_of rfl rfl rfl rfl) (fun _ _ _ _ h => h)) (pa_cons (pv 1) pa_nil)))
        (pss_one (ps_ret (pe_call (ok_sum_of_products T) (hr.mono (by decide)) (by rfl) T.m_sum_of_products T.F_sum_of_products.kp (b_sum_of_products T) .nil pass0 (pa_cons (pe_call (ok_shift_by T) (hr.mono (by decide)) (by rfl) T.m_shift_by T.F_shift_by.kp (b_shift_by T) .nil pass0 (pa_cons (pe_fld (pv 0) rfl) (pa_cons (pv 1) pa_nil))) (pa_cons (pe_fld (pv 0) rfl) pa_nil)))))), ?_⟩)
  refine body_ok 2 (by decide) (l_Row__term A) h (fun Γ ds Ψ Ξ hK hX hF hc ke => ?_)
  subst hK
  obtain ⟨f, S, k, rfl, hk, hr, h1, h2⟩ := hc
  refine sw_seq (sw_drop (ew_of_eb (eb_callXP ke rfl trivial (aw_cons (ew_var rfl (aw_nil ⟨k, rfl, hk, fun h3 => ?_, fun h3 => h2 h3⟩))))))
  obtain ⟨i, rfl⟩ := int_of h3
  obtain ⟨hi, hp⟩ := h1 i rfl
  have h8 := hr.fok.len
  refine sw_ret (ew_callP rfl trivial (aw_cons (ew_callP rfl trivial (aw_cons (ew_fld rfl (ew_var rfl ⟨_, _, _, rfl, T.cl_Row, T.no_Row_factors, rfl, aw_cons (ew_var rfl (aw_nil ⟨f, i, rfl, hr.fok, hi, fun v hv bv => aw_cons (ew_fld rfl (ew_var rfl ⟨_, _, _, rfl, T.cl_Row, T.no_Row_first, rfl, aw_nil ⟨v, S, rfl, ?_, ?_, ?_, ?_, ?_⟩⟩))⟩))⟩))))))
  · rw [hv.len, hr.l]
  · rw [hv.len]
    omega
  · exact big_mono bv (by decide)
  · exact big_mono hr.b (by decide)
  · rw [sh_dot hr.fok hr.l hv]
    exact hp
/-- the terms from the k-th on -/
def moveL (f S : List Int) (k : Int) : List Int := (List.range f.length).map fun (j : Nat) => Rw.sq f S (k + (j : Int))
theorem move_len {f S : List Int} {k : Int} : (moveL f S k).length = f.length := by
  unfold moveL
  rw [List.length_map, List.length_range]
abbrev c_Row__moved (A : Ad) : Cn := fun K w ds Ψ Ξ => ∃ f S k, ds = [rowD A f S, k] ∧ Dt K k ∧ ROk f S ∧ (∀ i, k = .int i → i.natAbs ≤ 100 ∧ Ψ (.ow (.obj A.c_Row [("factors", tI f), ("first", tI (moveL f S i))]))) ∧ (isIntD k = false → Ξ A.c_InvalidNumber "value" k)
theorem l_Row__moved (A : Ad) : ∀ K w ds Ψ Ξ, (c_Row__moved A) K w ds Ψ Ξ → ds.length = 2 := fun K w ds Ψ Ξ h => by
  obtain ⟨_, _, _, rfl, _⟩ := h
  rfl
theorem ok_Row__moved {P : Program} {w : World} {K : PySem.W.Frag} {mg : Str → Option Value} {base : Heap} {A : Ad} (T : Txt K mg A) : FnOk P w K mg base (L2N.CX P w) 9 A.Row__moved A.fd_Row__moved ["self", "k"] (SpD K AnyR (c_Row__moved A)) := by
  refine okN T.F_Row__moved sc_Row__moved (fun vs H Q E h => spd_len (l_Row__moved A) h) (fun cdv A' outer s H vs Q E hr h => ⟨_, (pss_cons (ps_expr (pe_call (ok_need_integer T) (hr.mono (by decide)) (by rfl) T.m_need_integer T.F_need_integer.kp (b_need_integer T) .nil (L2N.passes_call (L2N.takes_of rfl rfl rfl rfl) (fun _ _ _ _ h => h)) (pa_cons (pv 1) pa_nil)))
        (pss_cons (ps_set (i := 2) sc_Row__moved.nd rfl (.inl rfl) (pe_call (ok_shift_by T) (hr.mono (by decide)) (by rfl) T.m_shift_by T.F_shift_by.kp (b_shift_by T) .nil pass0 (pa_cons (pe_fld (pv 0) rfl) (pa_cons (pv 1) pa_nil))))
        (pss_cons (ps_set (i := 3) sc_Row__moved.nd rfl (.inl rfl) (pe_lst pa_nil))
        (pss_cons (ps_for (PassesOwn.leaving) rfl (pi_tup (pe_fld (pv 0) rfl)) (pg_name (i := 4) sc_Row__moved.nd rfl (.inl rfl)) (pss_cons (ps_expr (pe_bm PySem.F.plainAttrs_list PySem.F.slot_list_append PySem.F.type_list_append mt_append (pv 3) (pa_cons (pe_call (ok_sum_of_products T) (hr.mono (by decide)) (by rfl) T.m_sum_of_products T.F_sum_of_products.kp (b_sum_of_products T) .nil pass0 (pa_cons (pv 2) (pa_cons (pe_fld (pv 0) rfl) pa_nil))) pa_nil)))
        (pss_one (ps_set (i := 2) sc_Row__moved.nd rfl (.inl rfl) (pe_call (ok_shift_forward T) (hr.mono (by decide)) (by rfl) T.m_shift_forward T.F_shift_forward.kp (b_shift_forward T) .nil pass0 (pa_cons (pe_fld (pv 0) rfl) (pa_cons (pv 2) pa_nil)))))))
        (pss_one (ps_ret (pe_make T.mk_Row (ok_Row__init T) (hr.mono (by decide)) (by rfl) T.m_Row (b_Row__init T) .nil (L2N.passes_call (L2N.takes_of rfl rfl rfl rfl) (fun _ _ _ _ h => h)) (pa_cons (pe_fld (pv 0) rfl) (pa_cons (pe_callTy call_tuple_of (by rfl) T.b_tuple (by decide +kernel) (pa_cons (pv 3) pa_nil)) pa_nil))))))))), ?_⟩)
  refine body_ok 2 (by decide) (l_Row__moved A) h (fun Γ ds Ψ Ξ hK hX hF hc ke => ?_)
  subst hK
  obtain ⟨f, S, k, rfl, hk, hr, h1, h2⟩ := hc
  refine sw_seq (sw_drop (ew_of_eb (eb_callXP ke rfl trivial (aw_cons (ew_var rfl (aw_nil ⟨k, rfl, hk, fun h3 => ?_, fun h3 => h2 h3⟩))))))
  obtain ⟨i, rfl⟩ := int_of h3
  obtain ⟨hi, hp⟩ := h1 i rfl
  have h8 := hr.fok.len
  refine sw_seq (sw_asg (ew_callP rfl trivial (aw_cons (ew_fld rfl (ew_var rfl ⟨_, _, _, rfl, T.cl_Row, T.no_Row_factors, rfl, aw_cons (ew_var rfl (aw_nil ⟨f, i, rfl, hr.fok, by omega, fun v hv bv => ?_⟩))⟩)))))
  refine sw_seq (sw_asgB (eb_lst (aw_nil ⟨by decide, ?_⟩)))
  refine sw_seq (sw_forT rfl (ew_fld rfl (ew_var rfl ⟨_, _, _, rfl, T.cl_Row, T.no_Row_factors, rfl, _, rfl, fun n ρ => ∃ v c4, ρ = [some (.fz (rowD A f S)), some (.fz (.int i)), some (.fz (tI v)), some (.ow (.lst (((List.range n).map fun (j : Nat) => Rw.sq f S (i + (j : Int))).map D.int))), c4] ∧ Rw.Sh f (i + (n : Int)) v ∧ Big (300000 + 21 * n) v, ⟨v, none, rfl, by rw [Int.natCast_zero, Int.add_zero]; exact hv, big_mono bv (by omega)⟩, ?_, ?_⟩)))
  · rintro n x ρ2 hx ⟨v, c4, rfl, hv, bv⟩
    obtain ⟨x, hx', rfl⟩ := item_mp hx
    have hn : n < f.length := (List.getElem?_eq_some_iff.mp hx').1
    refine ⟨_, gd_name, ?_⟩
    refine sw_seq (sw_app rfl (ew_callP rfl trivial (aw_cons (ew_var rfl (aw_cons (ew_fld rfl (ew_var rfl ⟨_, _, _, rfl, T.cl_Row, T.no_Row_first, rfl, aw_nil ⟨v, S, rfl, ?_, ?_, ?_, ?_, ?_⟩⟩)))))))
    · rw [hv.len, hr.l]
    · rw [hv.len]
      omega
    · exact big_mono bv (by omega)
    · exact big_mono hr.b (by decide)
    · refine ⟨_, rfl, by rw [List.length_map, List.length_map, List.length_range]; omega, ?_⟩
      refine sw_asg (ew_callP rfl trivial (aw_cons (ew_fld rfl (ew_var rfl ⟨_, _, _, rfl, T.cl_Row, T.no_Row_factors, rfl, aw_cons (ew_var rfl (aw_nil ⟨f, v, rfl, hr.fok, hv.len, big_mono bv (by omega), ?_⟩))⟩))))
      refine ⟨Rw.fwd f v, some (.fz (.int x)), ?_, ?_, big_mono (fwd_big hr.fok.big bv) (by omega)⟩
      · rw [sh_dot hr.fok hr.l hv, List.range_succ, List.map_append, List.map_append]
        rfl
      · have := Rw.sh_fwd hr.fok.ne hv
        rwa [show i + (n : Int) + 1 = i + ((n + 1 : Nat) : Int) by omega] at this
  · rintro ρ2 ⟨v, c4, rfl, hv, bv⟩
    rw [List.length_map]
    refine sw_retB (eb_make rfl (aw_cons (ew_fld rfl (ew_var rfl ⟨_, _, _, rfl, T.cl_Row, T.no_Row_factors, rfl, aw_cons (ew_tupO rfl rfl (aw_nil (row_in hr.fok move_len (.inl rfl) (.inl rfl) ?_)))⟩))))
    exact hp
theorem turn_len {f : List Int} (hf : FOk f) : (turnF f).length = f.length := by
  have := List.length_pos_iff.mpr hf.ne
  unfold turnF
  rw [List.length_cons, List.length_map, List.length_reverse, List.length_tail]
  omega
theorem turn_ok {f : List Int} (hf : FOk f) : FOk (turnF f) := by
  refine ⟨(fun e => by cases e), by rw [turn_len hf]; exact hf.len, hf.unit, ?_⟩
  refine big_cons (big_headD hf.big) fun y hy => ?_
  obtain ⟨x, hx, rfl⟩ := List.mem_map.mp hy
  have hx := big_tail hf.big x (List.mem_reverse.mp hx)
  rw [Int.natAbs_mul, Int.natAbs_neg, unit_abs hf.unit, Nat.one_mul]
  exact hx
theorem bterms_len {f S : List Int} {n : Nat} : (bterms f S n).length = n := by
  unfold bterms
  rw [List.length_map, List.length_range]
abbrev c_Row__turned (A : Ad) : Cn := fun K w ds Ψ Ξ => ∃ f S, ds = [rowD A f S] ∧ ROk f S ∧ Ψ (.ow (.obj A.c_Row [("factors", tI (turnF f)), ("first", tI (bterms f S f.length))]))
theorem l_Row__turned (A : Ad) : ∀ K w ds Ψ Ξ, (c_Row__turned A) K w ds Ψ Ξ → ds.length = 1 := fun K w ds Ψ Ξ h => by
  obtain ⟨_, _, rfl, _⟩ := h
  rfl
theorem ok_Row__turned {P : Program} {w : World} {K : PySem.W.Frag} {mg : Str → Option Value} {base : Heap} {A : Ad} (T : Txt K mg A) : FnOk P w K mg base CX0 9 A.Row__turned A.fd_Row__turned ["self"] (SpD K AnyR (c_Row__turned A)) := by
  refine Fun.ok T.F_Row__turned sc_Row__turned (fun vs H Q E h => spd_len (l_Row__turned A) h) (fun cdv A' outer s H vs Q E hr h => ⟨_, (pss_cons (ps_set (i := 1) sc_Row__turned.nd rfl (.inl rfl) (pe_call (ok_terms_back T) (hr.mono (by decide)) (by rfl) T.m_terms_back T.F_terms_back.kp (b_terms_back T) .nil pass0 (pa_cons (pe_fld (pv 0) rfl) (pa_cons (pe_fld (pv 0) rfl) (pa_cons (pe_callB call_len_seq (by rfl) T.b_len (by decide +kernel) (pa_cons (pe_fld (pv 0) rfl) pa_nil)) pa_nil)))))
        (pss_one (ps_ret (pe_make T.mk_Row (ok_Row__init T) (hr.mono (by decide)) (by rfl) T.m_Row (b_Row__init T) .nil passLN (pa_cons (pe_call (ok_turned_factors T) (hr.mono (by decide)) (by rfl) T.m_turned_factors T.F_turned_factors.kp (b_turned_factors T) .nil pass0 (pa_cons (pe_fld (pv 0) rfl) pa_nil)) (pa_cons (pv 1) pa_nil)))))), ?_⟩)
  refine body_ok 1 (by decide) (l_Row__turned A) h (fun Γ ds Ψ Ξ hK hX hF hc ke => ?_)
  subst hK
  obtain ⟨f, S, rfl, hr, hp⟩ := hc
  have h8 := hr.fok.len
  refine sw_seq (sw_asg (ew_callP rfl trivial (aw_cons (ew_fld rfl (ew_var rfl ⟨_, _, _, rfl, T.cl_Row, T.no_Row_factors, rfl, aw_cons (ew_fld rfl (ew_var rfl ⟨_, _, _, rfl, T.cl_Row, T.no_Row_first, rfl, aw_cons (ew_cb (aw_cons (ew_fld rfl (ew_var rfl ⟨_, _, _, rfl, T.cl_Row, T.no_Row_factors, rfl, aw_nil ⟨_, cbv_lenT rfl, aw_nil ⟨f, S, f.length, by rw [List.length_map], hr.fok, hr.l, hr.b, by omega, ?_⟩⟩⟩))))⟩))⟩)))))
  refine sw_retB (eb_make rfl (aw_cons (ew_callP rfl trivial (aw_cons (ew_fld rfl (ew_var rfl ⟨_, _, _, rfl, T.cl_Row, T.no_Row_factors, rfl, aw_nil ⟨f, rfl, hr.fok, aw_cons (ew_var rfl (aw_nil (row_in (turn_ok hr.fok) (by rw [bterms_len, turn_len hr.fok]) (.inl rfl) (.inl rfl) hp)))⟩⟩))))))
end Pf

namespace Pf
open PySem L2 Dl Sh
open Evl (Ex)
open Ry
local macro_rules | `(tactic| walk_at "r0") => `(tactic| with_reducible first
  | refine sw_seq ?_
  | refine ew_var rfl ?_
  | refine ew_int ?_
  | refine ew_bl ?_
  | refine ew_non ?_
  | refine ew_str ?_
  | refine aw_cons ?_
  | refine aw_nil ?_
  | refine sw_par ?_
  | refine sw_next ?_
  | refine sw_if ?_
  | refine sw_ret ?_
  | refine tw_not ?_
  | refine tw_and ?_
  | refine tw_or ?_
  | refine tw_test ?_
  | refine tw_B ?_
  | refine tw_tru rfl ?_
  | refine ew_andV ?_
  | refine ew_orV ?_
  | refine ew_notV ?_
  | refine ew_if ?_
  | refine ew_chain ?_
  | refine ew_isN ?_
  | refine ew_tup ?_
  | refine ew_lst ?_
  | refine ew_isiD isN_int rfl ?_
  | refine ew_isiD isN_bool rfl ?_
  | refine ew_isiD isN_tuple rfl ?_
  | refine ew_isiD isN_list rfl ?_
  | refine ew_isiD isN_str rfl ?_
  | refine ew_isi2D isN_list isN_tuple rfl ?_
  | refine ew_isi2D isN_tuple isN_list rfl ?_
  | refine ew_cb ?_
  | refine ew_neg ?_
  | refine ew_op ?_
  | refine ⟨_, opv_int, ?_⟩
  | refine ⟨_, opv_cmp, ?_⟩
  | refine ⟨_, opv_eq, ?_⟩
  | refine ⟨_, opv_ne, ?_⟩
  | refine ⟨_, opv_eqB, ?_⟩
  | refine ⟨_, opv_eqS, ?_⟩
  | refine ⟨_, cbv_abs, ?_⟩
  | refine ⟨_, cbv_max2, ?_⟩
  | refine ⟨_, cbv_min2, ?_⟩
  | refine pw_none ?_
  | refine pw_some ?_
  | refine ⟨_, cbv_int, ?_⟩
  | refine ⟨_, rfl, ?_⟩
  | refine ⟨_, _, rfl, ?_⟩
  | refine ⟨_, _, _, rfl, ?_⟩
  | refine ⟨_, _, _, _, rfl, ?_⟩
  | refine br_t ?_
  | refine br_f ?_
  | refine ⟨dt_int, ?_⟩
  | refine ⟨dt_bl, ?_⟩
  | refine ⟨dt_str, ?_⟩
  | refine ⟨dt_non, ?_⟩
  | refine ⟨dt_tup, ?_⟩
  | refine ⟨dt_lst, ?_⟩
  | refine sw_asg ?_
  | refine sw_drop ?_)
local macro_rules | `(tactic| walk_at "r1") => `(tactic| first
  | ((with_reducible refine ew_tupL ?hK ?_); (case hK => rfl))
  | ((with_reducible refine ew_catT ?hK ?_); (case hK => rfl))
  | ((with_reducible refine ew_repT ?hK ?_); (case hK => rfl))
  | ((with_reducible refine ew_of_eb (eb_listL ?hK ?_)); (case hK => rfl))
  | ((with_reducible refine ew_of_eb (eb_cutL ?hK ?_)); (case hK => rfl))
  | walk_at "r0"
  | ((with_reducible refine ew_of_eb (eb_mapT ?hV ?hK ?_)); (case hK => rfl); (case hV => rfl))
  | ((with_reducible refine ew_of_eb (eb_mapL ?hV ?hK ?_)); (case hK => rfl); (case hV => rfl))
  | ((with_reducible refine ew_of_eb (eb_mapR ?hV ?_)); (case hV => rfl))
  | ((with_reducible refine ew_callP ?hK trivial ?_); (case hK => rfl))
  | ((with_reducible refine ew_callW ?hK trivial ?_); (case hK => rfl))
  | ((with_reducible refine ew_callH ?hK trivial ?_); (case hK => rfl))
  | ((with_reducible refine ew_callR ?hK ?hF ?_); (case hK => rfl); (case hF => assumption))
  | ((with_reducible refine len_ok ?hK ?_); (case hK => rfl))
  | ((with_reducible refine ew_notT ?hK ?_); (case hK => rfl))
  | ((with_reducible refine ew_cutT ?hK ?_); (case hK => rfl))
  | ((with_reducible refine ⟨(?hK : Dt _ _), ?_⟩); (case hK => assumption))
  | ((with_reducible refine sw_unp2 ?hK ?hn ?_); (case hK => rfl); (case hn => rfl)))
local macro_rules | `(tactic| walk_at "side") => `(tactic| first
  | exact Or.inr (by decide)
  | exact Or.inl (by decide)
  | exact ⟨by decide, by decide⟩
  | exact ⟨by decide, by decide, by decide⟩
  | decide
  | (dsimp only; decide)
  | exact mw (by assumption) (by assumption))
local macro_rules | `(tactic| walk_at "r2") => `(tactic| first
  | walk_at "r1"
  | ((with_reducible refine ⟨_, opv_intC ?hC, ?_⟩); (case hC => walk_at "side"))
  | ((with_reducible refine ⟨_, cbv_lenL ?hK, ?_⟩); (case hK => rfl))
  | ((with_reducible refine ⟨_, cbv_allM ?hK, ?_⟩); (case hK => rfl))
  | ((with_reducible refine ⟨_, cbv_anyM ?hK, ?_⟩); (case hK => rfl))
  | ((with_reducible refine ⟨_, cbv_sumM ?hK, ?_⟩); (case hK => rfl))
  | ((with_reducible refine ⟨_, cbv_lenT ?hK, ?_⟩); (case hK => rfl))
  | (with_reducible refine ⟨_, opv_ixT (by with_unfolding_all rfl) (by with_unfolding_all rfl), ?_⟩)
  | refine br_t ?_
  | refine br_f ?_)
local macro_rules | `(tactic| walk_at "rd") => `(tactic| repeat (walk_at "r2"))
local macro_rules | `(tactic| walk_at "rs") => `(tactic| repeat ((fail_if_success (with_reducible refine sw_isif ?_)); walk_at "r2"))
local macro_rules | `(tactic| walk_at "nf") => `(tactic| (try simp only [List.set_cons_zero, List.set_cons_succ, Dl.sets, Dl.asD]))
local macro_rules | `(tactic| walk_at "ru") => `(tactic| repeat ((fail_if_success (with_reducible refine sw_seq ?_)); walk_at "r2"))

/-! polynomials of integers -/
@[reducible] def onD (x : Int) : D := shD (x, 1)
/-- the polynomial with these integers as members -/
@[reducible] def pyD (v : List Int) : D := .tup (v.map onD)
@[reducible] def lI (v : List Int) : D := .lst (v.map D.int)
theorem gi_one {x : Int} : gi x 1 = 1 := by
  have h : gi x 1 ∣ 1 := gi_r x 1
  have h2 := gi_pos (a := x) (b := 1) (by decide)
  have := Int.le_of_dvd (by decide) h
  omega
theorem red_one {x : Int} : red x 1 = (x, 1) := by
  unfold red
  rw [if_neg (by decide), gi_one, Int.ediv_one]
  rfl
abbrev c_is_amount : Cn := fun K w ds Ψ Ξ => ∃ d, ds = [d] ∧ Dt2 K d ∧ Ψ (.fz (.bl (isIntD d || isShD d)))
theorem l_is_amount : ∀ K w ds Ψ Ξ, c_is_amount K w ds Ψ Ξ → ds.length = 1 := fun K w ds Ψ Ξ h => by
  obtain ⟨_, rfl, _⟩ := h
  rfl
theorem ok_is_amount {P : Program} {w : World} {K : PySem.W.Frag} {mg : Str → Option Value} {base : Heap} {A : Ad} (T : Txt K mg A) : FnOk P w K mg base CX0 3 A.is_amount A.fd_is_amount ["value"] (SpD K AnyR c_is_amount) := by
  refine Fun.ok T.F_is_amount sc_is_amount (fun vs H Q E h => spd_len (l_is_amount) h) (fun cdv A' outer s H vs Q E hr h => ⟨_, (pss_one (ps_ret (pe_or (pe_call (ok_is_integer T) (hr.mono (by decide)) (by rfl) T.m_is_integer T.F_is_integer.kp (b_is_integer T) .nil pass0 (pa_cons (pv 0) pa_nil)) (pe_one (pe_call (ok_is_share T) (hr.mono (by decide)) (by rfl) T.m_is_share T.F_is_share.kp (b_is_share T) .nil pass0 (pa_cons (pv 0) pa_nil)))))), ?_⟩)
  refine body_ok 1 (by decide) (l_is_amount) h (fun Γ ds Ψ Ξ hK hX hF hc ke => ?_)
  subst hK
  obtain ⟨d, rfl, hd, hc⟩ := hc
  have hd1 := hd.1
  walk_at "rd"
  refine ⟨fun h1 => ?_, fun h1 => ?_⟩
  · rw [h1] at hc
    exact hc
  · walk_at "rd"
    rw [h1, Bool.false_or] at hc
    exact ⟨hd, hc⟩
abbrev c_common_multiple : Cn := fun K w ds Ψ Ξ => ds = [.int 1, .int 1] ∧ Ψ (.fz (.int 1))
theorem l_common_multiple : ∀ K w ds Ψ Ξ, c_common_multiple K w ds Ψ Ξ → ds.length = 2 := fun K w ds Ψ Ξ h => by
  obtain ⟨rfl, _⟩ := h
  rfl
theorem ok_common_multiple {P : Program} {w : World} {K : PySem.W.Frag} {mg : Str → Option Value} {base : Heap} {A : Ad} (T : Txt K mg A) : FnOk P w K mg base CX0 2 A.common_multiple A.fd_common_multiple ["a", "b"] (SpD K AnyR c_common_multiple) := by
  refine Fun.ok T.F_common_multiple sc_common_multiple (fun vs H Q E h => spd_len (l_common_multiple) h) (fun cdv A' outer s H vs Q E hr h => ⟨_, (pss_one (ps_ret (pe_op op_mul (pe_op op_fdiv (pv 0) (pe_call (ok_common_divisor T) (hr.mono (by decide)) (by rfl) T.m_common_divisor T.F_common_divisor.kp (b_common_divisor T) .nil pass0 (pa_cons (pv 0) (pa_cons (pv 1) pa_nil)))) (pv 1)))), ?_⟩)
  refine body_ok 2 (by decide) (l_common_multiple) h (fun Γ ds Ψ Ξ hK hX hF hc ke => ?_)
  subst hK
  obtain ⟨rfl, hc⟩ := hc
  walk_at "rd"
  have e : gi 1 1 = 1 := gi_one
  rw [e]
  walk_at "rd"
  exact hc
abbrev c_common_bottom : Cn := fun K w ds Ψ Ξ => ∃ v : List Int, ds = [pyD v] ∧ Ψ (.fz (.int 1))
theorem l_common_bottom : ∀ K w ds Ψ Ξ, c_common_bottom K w ds Ψ Ξ → ds.length = 1 := fun K w ds Ψ Ξ h => by
  obtain ⟨_, rfl, _⟩ := h
  rfl
theorem ok_common_bottom {P : Program} {w : World} {K : PySem.W.Frag} {mg : Str → Option Value} {base : Heap} {A : Ad} (T : Txt K mg A) : FnOk P w K mg base CX0 3 A.common_bottom A.fd_common_bottom ["shares"] (SpD K AnyR c_common_bottom) := by
  refine Fun.ok T.F_common_bottom sc_common_bottom (fun vs H Q E h => spd_len (l_common_bottom) h) (fun cdv A' outer s H vs Q E hr h => ⟨_, (pss_cons (ps_set (i := 1) sc_common_bottom.nd rfl (.inl rfl) pe_int)
        (pss_cons (ps_for PassesOwn.never rfl (pi_tup (pv 0)) (pg_name (i := 2) sc_common_bottom.nd rfl (.inl rfl)) (pss_one (ps_set (i := 1) sc_common_bottom.nd rfl (.inl rfl) (pe_call (ok_common_multiple T) (hr.mono (by decide)) (by rfl) T.m_common_multiple T.F_common_multiple.kp (b_common_multiple T) .nil pass0 (pa_cons (pv 1) (pa_cons (pe_ix ix_tup (pe_call (ok_as_share T) (hr.mono (by decide)) (by rfl) T.m_as_share T.F_as_share.kp (b_as_share T) .nil pass0 (pa_cons (pv 2) pa_nil)) pe_int (fun _ _ => rfl)) pa_nil))))))
        (pss_one (ps_ret (pv 1))))), ?_⟩)
  refine body_ok 1 (by decide) (l_common_bottom) h (fun Γ ds Ψ Ξ hK hX hF hc ke => ?_)
  subst hK
  obtain ⟨v, rfl, hc⟩ := hc
  walk_at "ru"
  refine sw_seq (sw_asg (ew_int ?_))
  refine sw_seq (sw_forT rfl (ew_var rfl ⟨_, rfl, fun i ρ => ∃ c2, ρ = [some (.fz (pyD v)), some (.fz (.int 1)), c2], ⟨none, rfl⟩, ?_, ?_⟩))
  · rintro i x ρ2 hx ⟨c2, rfl⟩
    obtain ⟨x, hx', rfl⟩ := item_mp hx
    refine ⟨_, gd_name, ?_⟩
    walk_at "rd"
    refine ⟨_, (x, 1), rfl, .sh (x, 1), ?_⟩
    walk_at "rd"
    exact ⟨rfl, _, rfl⟩
  · rintro ρ2 ⟨c2, rfl⟩
    exact sw_ret (ew_var rfl hc)
abbrev c_scaled_to : Cn := fun K w ds Ψ Ξ => ∃ x : Int, ds = [onD x, .int 1] ∧ Ψ (.fz (.int x))
theorem l_scaled_to : ∀ K w ds Ψ Ξ, c_scaled_to K w ds Ψ Ξ → ds.length = 2 := fun K w ds Ψ Ξ h => by
  obtain ⟨_, rfl, _⟩ := h
  rfl
theorem ok_scaled_to {P : Program} {w : World} {K : PySem.W.Frag} {mg : Str → Option Value} {base : Heap} {A : Ad} (T : Txt K mg A) : FnOk P w K mg base CX0 3 A.scaled_to A.fd_scaled_to ["share", "factor"] (SpD K AnyR c_scaled_to) := by
  refine Fun.ok T.F_scaled_to sc_scaled_to (fun vs H Q E h => spd_len (l_scaled_to) h) (fun cdv A' outer s H vs Q E hr h => ⟨_, (pss_cons (ps_asg (pe_call (ok_as_share T) (hr.mono (by decide)) (by rfl) T.m_as_share T.F_as_share.kp (b_as_share T) .nil pass0 (pa_cons (pv 0) pa_nil)) (pg_tup (by rfl) (pgs_cons (pg_name (i := 2) sc_scaled_to.nd rfl (.inl rfl)) (pgs_cons (pg_name (i := 3) sc_scaled_to.nd rfl (.inl rfl)) pgs_nil))))
        (pss_one (ps_ret (pe_op op_mul (pv 2) (pe_op op_fdiv (pv 1) (pv 3)))))), ?_⟩)
  refine body_ok 2 (by decide) (l_scaled_to) h (fun Γ ds Ψ Ξ hK hX hF hc ke => ?_)
  subst hK
  obtain ⟨x, rfl, hc⟩ := hc
  walk_at "rd"
  refine ⟨_, (x, 1), rfl, .sh (x, 1), ?_⟩
  walk_at "rd"
  refine ⟨_, opv_intC (show CDiv 1 1 from ⟨by decide, by decide⟩), ?_⟩
  walk_at "rd"
  refine ⟨_, opv_intC (show CMul x (1 / 1) from .inr ⟨by decide, by decide⟩), ?_⟩
  have e : x * (1 / 1) = x := by simp
  show Ψ (.fz (.int (x * (1 / 1))))
  rw [e]
  exact hc
def topF : D → D
  | .tup [.int a, _] => .int a
  | _ => .non
abbrev c_whole_parts : Cn := fun K w ds Ψ Ξ => ∃ v : List Int, ds = [pyD v] ∧ v.length ≤ 1000 ∧ Ψ (.fz (.tup [lI v, .int 1]))
theorem l_whole_parts : ∀ K w ds Ψ Ξ, c_whole_parts K w ds Ψ Ξ → ds.length = 1 := fun K w ds Ψ Ξ h => by
  obtain ⟨_, rfl, _⟩ := h
  rfl
theorem ok_whole_parts {P : Program} {w : World} {K : PySem.W.Frag} {mg : Str → Option Value} {base : Heap} {A : Ad} (T : Txt K mg A) : FnOk P w K mg base CX0 4 A.whole_parts A.fd_whole_parts ["poly"] (SpD K AnyR c_whole_parts) := by
  refine Fun.ok T.F_whole_parts sc_whole_parts (fun vs H Q E h => spd_len (l_whole_parts) h) (fun cdv A' outer s H vs Q E hr h => ⟨_, (pss_cons (ps_set (i := 1) sc_whole_parts.nd rfl (.inr rfl) (pe_call (ok_common_bottom T) (hr.mono (by decide)) (by rfl) T.m_common_bottom T.F_common_bottom.kp (b_common_bottom T) .nil pass0 (pa_cons (pv 0) pa_nil)))
        (pss_one (ps_ret (pe_tup (pa_cons (pe_lc (own := [("share", 2)]) (by rfl) sc_whole_parts.nd (pi_tup (pv 0)) (blkOk_by (own := [("share", 2)]) (N := ["poly", "bottom", "share"]) (sc := defScope s_whole_parts) (by decide +kernel)) (fun _ _ _ _ _ => (pg_name (i := 2) sc_whole_parts.nd rfl (.inl rfl))) (fun _ _ _ _ _ => pts_nil) (fun _ _ _ _ _ => (pe_call (ok_scaled_to T) (hr.mono (by decide)) (by rfl) T.m_scaled_to T.F_scaled_to.kp (b_scaled_to T) .nil pass0 (pa_cons (pv 2) (pa_cons (pv 1) pa_nil))))) (pa_cons (pv 1) pa_nil)))))), ?_⟩)
  refine body_ok 1 (by decide) (l_whole_parts) h (fun Γ ds Ψ Ξ hK hX hF hc ke => ?_)
  subst hK
  obtain ⟨v, rfl, hl, hc⟩ := hc
  walk_at "rd"
  refine ⟨(fun es z => by cases z), by rw [List.length_map]; omega, topF, fun x hx c => ?_, ?_⟩
  · obtain ⟨y, hy, rfl⟩ := List.mem_map.mp hx
    walk_at "rd"
    exact ⟨rfl, rfl⟩
  · have e : (v.map onD).map topF = v.map D.int := by
      rw [List.map_map]
      rfl
    rw [e]
    walk_at "rd"
    exact hc
/-- zeros at the end left out -/
def trimR (v : List Int) : List Int := (v.reverse.dropWhile fun x => decide (x = 0)).reverse
theorem trim_nil : trimR [] = [] := rfl
theorem trim_zero {u : List Int} : trimR (u ++ [0]) = trimR u := by
  unfold trimR
  rw [List.reverse_append]
  rfl
theorem trim_snoc {u : List Int} {x : Int} (h : x ≠ 0) : trimR (u ++ [x]) = u ++ [x] := by
  unfold trimR
  rw [List.reverse_append]
  show ((x :: u.reverse).dropWhile _).reverse = _
  rw [List.dropWhile_cons_of_neg (by simpa using h), List.reverse_cons, List.reverse_reverse]
theorem take_last {v : List Int} {m : Nat} (h0 : 0 < m) (h : m ≤ v.length) : v.take m = v.take (m - 1) ++ [v.getD (m - 1) 0] := by
  have hm : m - 1 < v.length := by omega
  have e := get_take (l := v) (i := m - 1) (x := v[m - 1]) (List.getElem?_eq_getElem hm)
  rw [show m - 1 + 1 = m by omega] at e
  rw [e, List.getD_eq_getElem?_getD, List.getElem?_eq_getElem hm]
  rfl
abbrev c_poly_from : Cn := fun K w ds Ψ Ξ => ∃ v : List Int, ds = [lI v, .int 1] ∧ v.length ≤ 1000 ∧ Ψ (.fz (pyD (trimR v)))
def dropF (v : List Int) : D → D
  | .int i => onD (v.getD i.toNat 0)
  | _ => .non
theorem l_poly_from : ∀ K w ds Ψ Ξ, c_poly_from K w ds Ψ Ξ → ds.length = 2 := fun K w ds Ψ Ξ h => by
  obtain ⟨_, rfl, _⟩ := h
  rfl
theorem ok_poly_from {P : Program} {w : World} {K : PySem.W.Frag} {mg : Str → Option Value} {base : Heap} {A : Ad} (T : Txt K mg A) : FnOk P w K mg base CX0 3 A.poly_from A.fd_poly_from ["numbers", "bottom"] (SpD K AnyR c_poly_from) := by
  refine Fun.ok T.F_poly_from sc_poly_from (fun vs H Q E h => spd_len (l_poly_from) h) (fun cdv A' outer s H vs Q E hr h => ⟨_, (pss_cons (ps_set (i := 2) sc_poly_from.nd rfl (.inl rfl) (pe_callB call_len_seq (by rfl) T.b_len (by decide +kernel) (pa_cons (pv 0) pa_nil)))
        (pss_cons (ps_while PassesOwn.never (PW.pt (pw_and (pt_cmpR op_gt (pv 2) pe_int (nomark _)) (pw_and1 (pt_cmpR op_eq (pe_ix ix_list (pv 0) (pe_op op_sub (pv 2) pe_int) (fun _ _ => rfl)) pe_int (nomark _))))) (pss_one (ps_aug (i := 2) sc_poly_from.nd rfl (.inl rfl) pe_int ip_sub)))
        (pss_one (ps_ret (pe_callTy call_tuple_of (by rfl) T.b_tuple (by decide +kernel) (pa_cons (pe_lc (own := [("k", 3)]) (by rfl) sc_poly_from.nd (pi_range1 (by rfl) T.b_range (pa_cons (pv 2) pa_nil)) (blkOk_by (own := [("k", 3)]) (N := ["numbers", "bottom", "many", "k"]) (sc := defScope s_poly_from) (by decide +kernel)) (fun _ _ _ _ _ => (pg_name (i := 3) sc_poly_from.nd rfl (.inl rfl))) (fun _ _ _ _ _ => pts_nil) (fun _ _ _ _ _ => (pe_call (ok_reduced_pair T) (hr.mono (by decide)) (by rfl) T.m_reduced_pair T.F_reduced_pair.kp (b_reduced_pair T) .nil pass0 (pa_cons (pe_ix (by exact (show IxR _ (rIxL K) from ix_list)) (pv 0) (pv 3) (fun _ _ => rfl)) (pa_cons (pv 1) pa_nil))))) pa_nil)))))), ?_⟩)
  refine body_ok 2 (by decide) (l_poly_from) h (fun Γ ds Ψ Ξ hK hX hF hc ke => ?_)
  subst hK
  obtain ⟨v, rfl, hl, hc⟩ := hc
  refine sw_seq ?_
  walk_at "ru"
  refine sw_cut (fun ρ => ∃ m : Nat, ρ = [some (.fz (lI v)), some (.fz (.int 1)), some (.fz (.int (m : Int))), none] ∧ m ≤ v.length ∧ v.take m = trimR v) (sw_while (fun n ρ => ∃ m : Nat, ρ = [some (.fz (lI v)), some (.fz (.int 1)), some (.fz (.int (m : Int))), none] ∧ m ≤ v.length ∧ trimR (v.take m) = trimR v ∧ m = n) v.length ⟨v.length, by rw [List.length_map]; rfl, Nat.le_refl _, by rw [List.take_length], rfl⟩ ?_) ?_
  · rintro n ρ ⟨m, rfl, hm, ht, rfl⟩
    walk_at "rd"
    refine ⟨fun h1 => ?_, fun h1 => br_f ?_⟩
    · have hp : 0 < m := by
        have := of_decide_eq_true h1
        omega
      have hl' := take_last hp hm
      walk_at "rd"
      refine ⟨_, opv_ixIL rfl (by omega) (by omega), ?_⟩
      walk_at "rd"
      have em : ((m : Int) - 1).toNat = m - 1 := by omega
      rw [em]
      refine ⟨fun h2 => ?_, fun h2 => ?_⟩
      · refine sw_aug ⟨_, rfl, ew_int ⟨_, rfl, m - 1, by omega, m - 1, ?_, by omega, ?_, rfl⟩⟩
        · have e2 : (m : Int) - 1 = ((m - 1 : Nat) : Int) := by omega
          show ([some (B.fz (lI v)), some (B.fz (.int 1)), some (B.fz (.int ((m : Int) - 1))), none] : Dl.Env) = _
          rw [e2]
        · rw [of_decide_eq_true h2] at hl'
          rw [← ht, hl', trim_zero]
      · refine ⟨m, rfl, hm, ?_⟩
        rw [← ht, hl', trim_snoc (of_decide_eq_false h2)]
    · have h0 : m = 0 := by
        have := of_decide_eq_false h1
        omega
      subst h0
      exact ⟨0, rfl, Nat.zero_le _, by rw [← ht]; rfl⟩
  · rintro ρ ⟨m, rfl, hm, ht⟩
    walk_at "rd"
    rw [Int.toNat_natCast]
    refine ⟨by omega, (fun es z => by cases z), by rw [rngD_len]; omega, dropF v, fun x hx c => ?_, ?_⟩
    · obtain ⟨j, hj, rfl⟩ := rng_mem hx
      walk_at "rd"
      refine ⟨_, opv_ixIL rfl (by omega) (by omega), ?_⟩
      walk_at "rd"
      refine ⟨by decide, Nat.one_lt_two_pow (by decide), rfl, ?_⟩
      rw [red_one]
      rfl
    · have e : (rngD m).map (dropF v) = (trimR v).map onD := by
        rw [rng_map, ← ht]
        apply List.ext_getElem?
        intro j
        rw [List.getElem?_map, List.getElem?_map]
        by_cases hj : j < m
        · rw [List.getElem?_range hj, List.getElem?_take_of_lt hj, List.getElem?_eq_getElem (show j < v.length by omega)]
          show some (onD (v.getD j 0)) = some (onD v[j])
          rw [List.getD_eq_getElem?_getD, List.getElem?_eq_getElem (show j < v.length by omega)]
          rfl
        · rw [List.getElem?_eq_none (by rw [List.length_range]; omega), List.getElem?_eq_none (by rw [List.length_take]; omega)]
          rfl
      rw [e]
      walk_at "rd"
      exact hc
end Pf

namespace Pf
open PySem L2 Dl Sh
open Evl (Ex)
open Ry
local macro_rules | `(tactic| walk_at "r0") => `(tactic| with_reducible first
  | refine sw_seq ?_
  | refine ew_var rfl ?_
  | refine ew_int ?_
  | refine ew_bl ?_
  | refine ew_non ?_
  | refine ew_str ?_
  | refine aw_cons ?_
  | refine aw_nil ?_
  | refine sw_par ?_
  | refine sw_next ?_
  | refine sw_if ?_
  | refine sw_ret ?_
  | refine tw_not ?_
  | refine tw_and ?_
  | refine tw_or ?_
  | refine tw_test ?_
  | refine tw_B ?_
  | refine tw_tru rfl ?_
  | refine ew_andV ?_
  | refine ew_orV ?_
  | refine ew_notV ?_
  | refine ew_if ?_
  | refine ew_chain ?_
  | refine ew_isN ?_
  | refine ew_tup ?_
  | refine ew_lst ?_
  | refine ew_isiD isN_int rfl ?_
  | refine ew_isiD isN_bool rfl ?_
  | refine ew_isiD isN_tuple rfl ?_
  | refine ew_isiD isN_list rfl ?_
  | refine ew_isiD isN_str rfl ?_
  | refine ew_isi2D isN_list isN_tuple rfl ?_
  | refine ew_isi2D isN_tuple isN_list rfl ?_
  | refine ew_cb ?_
  | refine ew_neg ?_
  | refine ew_op ?_
  | refine ⟨_, opv_int, ?_⟩
  | refine ⟨_, opv_cmp, ?_⟩
  | refine ⟨_, opv_eq, ?_⟩
  | refine ⟨_, opv_ne, ?_⟩
  | refine ⟨_, opv_eqB, ?_⟩
  | refine ⟨_, opv_eqS, ?_⟩
  | refine ⟨_, cbv_abs, ?_⟩
  | refine ⟨_, cbv_max2, ?_⟩
  | refine ⟨_, cbv_min2, ?_⟩
  | refine pw_none ?_
  | refine pw_some ?_
  | refine ⟨_, cbv_int, ?_⟩
  | refine ⟨_, rfl, ?_⟩
  | refine ⟨_, _, rfl, ?_⟩
  | refine ⟨_, _, _, rfl, ?_⟩
  | refine ⟨_, _, _, _, rfl, ?_⟩
  | refine br_t ?_
  | refine br_f ?_
  | refine ⟨dt_int, ?_⟩
  | refine ⟨dt_bl, ?_⟩
  | refine ⟨dt_str, ?_⟩
  | refine ⟨dt_non, ?_⟩
  | refine ⟨dt_tup, ?_⟩
  | refine ⟨dt_lst, ?_⟩
  | refine sw_asg ?_
  | refine sw_drop ?_)
local macro_rules | `(tactic| walk_at "r1") => `(tactic| first
  | ((with_reducible refine ew_tupL ?hK ?_); (case hK => rfl))
  | ((with_reducible refine ew_catT ?hK ?_); (case hK => rfl))
  | ((with_reducible refine ew_repT ?hK ?_); (case hK => rfl))
  | ((with_reducible refine ew_of_eb (eb_listL ?hK ?_)); (case hK => rfl))
  | ((with_reducible refine ew_of_eb (eb_cutL ?hK ?_)); (case hK => rfl))
  | walk_at "r0"
  | ((with_reducible refine ew_of_eb (eb_mapT ?hV ?hK ?_)); (case hK => rfl); (case hV => rfl))
  | ((with_reducible refine ew_of_eb (eb_mapL ?hV ?hK ?_)); (case hK => rfl); (case hV => rfl))
  | ((with_reducible refine ew_of_eb (eb_mapR ?hV ?_)); (case hV => rfl))
  | ((with_reducible refine ew_callP ?hK trivial ?_); (case hK => rfl))
  | ((with_reducible refine ew_callW ?hK trivial ?_); (case hK => rfl))
  | ((with_reducible refine ew_callH ?hK trivial ?_); (case hK => rfl))
  | ((with_reducible refine ew_callR ?hK ?hF ?_); (case hK => rfl); (case hF => assumption))
  | ((with_reducible refine len_ok ?hK ?_); (case hK => rfl))
  | ((with_reducible refine ew_notT ?hK ?_); (case hK => rfl))
  | ((with_reducible refine ew_cutT ?hK ?_); (case hK => rfl))
  | ((with_reducible refine ⟨(?hK : Dt _ _), ?_⟩); (case hK => assumption))
  | ((with_reducible refine sw_unp2 ?hK ?hn ?_); (case hK => rfl); (case hn => rfl)))
local macro_rules | `(tactic| walk_at "side") => `(tactic| first
  | exact Or.inr (by decide)
  | exact Or.inl (by decide)
  | exact ⟨by decide, by decide⟩
  | exact ⟨by decide, by decide, by decide⟩
  | decide
  | (dsimp only; decide)
  | exact mw (by assumption) (by assumption))
local macro_rules | `(tactic| walk_at "r2") => `(tactic| first
  | walk_at "r1"
  | ((with_reducible refine ⟨_, opv_intC ?hC, ?_⟩); (case hC => walk_at "side"))
  | ((with_reducible refine ⟨_, cbv_lenL ?hK, ?_⟩); (case hK => rfl))
  | ((with_reducible refine ⟨_, cbv_allM ?hK, ?_⟩); (case hK => rfl))
  | ((with_reducible refine ⟨_, cbv_anyM ?hK, ?_⟩); (case hK => rfl))
  | ((with_reducible refine ⟨_, cbv_sumM ?hK, ?_⟩); (case hK => rfl))
  | ((with_reducible refine ⟨_, cbv_lenT ?hK, ?_⟩); (case hK => rfl))
  | (with_reducible refine ⟨_, opv_ixT (by with_unfolding_all rfl) (by with_unfolding_all rfl), ?_⟩)
  | refine br_t ?_
  | refine br_f ?_)
local macro_rules | `(tactic| walk_at "rd") => `(tactic| repeat (walk_at "r2"))
local macro_rules | `(tactic| walk_at "rs") => `(tactic| repeat ((fail_if_success (with_reducible refine sw_isif ?_)); walk_at "r2"))
local macro_rules | `(tactic| walk_at "nf") => `(tactic| (try simp only [List.set_cons_zero, List.set_cons_succ, Dl.sets, Dl.asD]))
local macro_rules | `(tactic| walk_at "ru") => `(tactic| repeat ((fail_if_success (with_reducible refine sw_seq ?_)); walk_at "r2"))

def subR (v u : List Int) : List Int := rowI (max v.length u.length) fun k => v.getD k 0 + -1 * u.getD k 0
theorem getD_out {v : List Int} {k : Nat} (h : v.length ≤ k) : v.getD k 0 = 0 := by
  rw [List.getD_eq_getElem?_getD, List.getElem?_eq_none h]
  rfl
theorem row_acc {n i : Nat} {R g : Nat → Int} {b : Int} (hi : i < n) (hb : b = g i) : (rowI n fun k => R k + if k < i then g k else 0).set i (((rowI n fun k => R k + if k < i then g k else 0).getD i 0) + b) = rowI n fun k => R k + if k < i + 1 then g k else 0 := by
  rw [row_get hi, row_set]
  refine row_congr fun k => ?_
  by_cases e : k = i
  · subst e
    rw [if_pos rfl, if_neg (by omega), if_pos (by omega), hb, Int.add_zero]
  · rw [if_neg e]
    by_cases h : k < i
    · rw [if_pos h, if_pos (by omega)]
    · rw [if_neg h, if_neg (by omega)]
abbrev c_combined_polys : Cn := fun K w ds Ψ Ξ => ∃ v u : List Int, ds = [pyD v, .int 1, pyD u, .int (-1)] ∧ v.length ≤ 50 ∧ u.length ≤ 50 ∧ Ψ (.fz (pyD (trimR (subR v u))))
theorem l_combined_polys : ∀ K w ds Ψ Ξ, c_combined_polys K w ds Ψ Ξ → ds.length = 4 := fun K w ds Ψ Ξ h => by
  obtain ⟨_, _, rfl, _⟩ := h
  rfl
theorem ok_combined_polys {P : Program} {w : World} {K : PySem.W.Frag} {mg : Str → Option Value} {base : Heap} {A : Ad} (T : Txt K mg A) : FnOk P w K mg base CX0 5 A.combined_polys A.fd_combined_polys ["one", "factor", "other", "by"] (SpD K AnyR c_combined_polys) := by
  refine Fun.ok T.F_combined_polys sc_combined_polys (fun vs H Q E h => spd_len (l_combined_polys) h) (fun cdv A' outer s H vs Q E hr h => ⟨_, (pss_cons (ps_asg (pe_call (ok_whole_parts T) (hr.mono (by decide)) (by rfl) T.m_whole_parts T.F_whole_parts.kp (b_whole_parts T) .nil pass0 (pa_cons (pv 0) pa_nil)) (pg_tup (by rfl) (pgs_cons (pg_name (i := 4) sc_combined_polys.nd rfl (.inl rfl)) (pgs_cons (pg_name (i := 5) sc_combined_polys.nd rfl (.inl rfl)) pgs_nil))))
        (pss_cons (ps_asg (pe_call (ok_whole_parts T) (hr.mono (by decide)) (by rfl) T.m_whole_parts T.F_whole_parts.kp (b_whole_parts T) .nil pass0 (pa_cons (pv 2) pa_nil)) (pg_tup (by rfl) (pgs_cons (pg_name (i := 6) sc_combined_polys.nd rfl (.inl rfl)) (pgs_cons (pg_name (i := 7) sc_combined_polys.nd rfl (.inl rfl)) pgs_nil))))
        (pss_cons (ps_set (i := 8) sc_combined_polys.nd rfl (.inl rfl) (pe_call (ok_common_multiple T) (hr.mono (by decide)) (by rfl) T.m_common_multiple T.F_common_multiple.kp (b_common_multiple T) .nil pass0 (pa_cons (pv 5) (pa_cons (pv 7) pa_nil))))
        (pss_cons (ps_set (i := 9) sc_combined_polys.nd rfl (.inl rfl) (pe_op op_rep (pe_lst (pa_cons pe_int pa_nil)) (pe_callB (call_max2 rfl) (by rfl) T.b_max (by decide +kernel) (pa_cons (pe_callB call_len_seq (by rfl) T.b_len (by decide +kernel) (pa_cons (pv 4) pa_nil)) (pa_cons (pe_callB call_len_seq (by rfl) T.b_len (by decide +kernel) (pa_cons (pv 6) pa_nil)) pa_nil)))))
        (pss_cons (ps_for PassesOwn.never rfl (pi_range1 (by rfl) T.b_range (pa_cons (pe_callB call_len_seq (by rfl) T.b_len (by decide +kernel) (pa_cons (pv 4) pa_nil)) pa_nil)) (pg_name (i := 10) sc_combined_polys.nd rfl (.inl rfl)) (pss_one (ps_augS (pv 9) (pv 10) get_own (pe_op op_mul (pe_op op_mul (pv 1) (pe_ix ix_list (pv 4) (pv 10) (fun _ _ => rfl))) (pe_op op_fdiv (pv 8) (pv 5))) ip_add set_list)))
        (pss_cons (ps_for PassesOwn.never rfl (pi_range1 (by rfl) T.b_range (pa_cons (pe_callB call_len_seq (by rfl) T.b_len (by decide +kernel) (pa_cons (pv 6) pa_nil)) pa_nil)) (pg_name (i := 10) sc_combined_polys.nd rfl (.inl rfl)) (pss_one (ps_augS (pv 9) (pv 10) get_own (pe_op op_mul (pe_op op_mul (pv 3) (pe_ix ix_list (pv 6) (pv 10) (fun _ _ => rfl))) (pe_op op_fdiv (pv 8) (pv 7))) ip_add set_list)))
        (pss_one (ps_ret (pe_call (ok_poly_from T) (hr.mono (by decide)) (by rfl) T.m_poly_from T.F_poly_from.kp (b_poly_from T) .nil pass0 (pa_cons (pv 9) (pa_cons (pv 8) pa_nil))))))))))), ?_⟩)
  refine body_ok 4 (by decide) (l_combined_polys) h (fun Γ ds Ψ Ξ hK hX hF hc ke => ?_)
  subst hK
  obtain ⟨v, u, rfl, hv, hu, hc⟩ := hc
  refine sw_seq ?_
  walk_at "ru"
  refine ⟨by omega, _, _, rfl, ?_⟩
  refine sw_seq ?_
  walk_at "ru"
  refine ⟨by omega, _, _, rfl, ?_⟩
  refine sw_seq ?_
  walk_at "ru"
  refine ⟨rfl, ?_⟩
  have hn : (v.length : Int) ≤ 50 ∧ (u.length : Int) ≤ 50 := by omega
  have em : max (v.length : Int) (u.length : Int) = ((max v.length u.length : Nat) : Int) := by omega
  refine sw_seq (sw_asgB (eb_rep (aw_cons (ew_int (aw_nil ⟨by decide, fun c => ?_⟩)))))
  walk_at "rd"
  rw [List.length_map, List.length_map, em]
  refine ⟨by omega, by show 1 * _ ≤ _; omega, ?_⟩
  rw [flat_rep1, Int.toNat_natCast]
  have e0 : List.replicate (max v.length u.length) (D.int 0) = (rowI (max v.length u.length) fun _ => 0).map D.int := by rw [← row_zero, List.map_replicate]
  rw [e0]
  refine sw_seq (sw_forR (aw_cons (ew_cb (aw_cons (ew_var rfl (aw_nil ⟨_, cbv_lenL rfl, aw_nil ⟨_, rfl, ?_, fun i ρ => ∃ c10, ρ = [some (.fz (pyD v)), some (.fz (.int 1)), some (.fz (pyD u)), some (.fz (.int (-1))), some (.fz (lI v)), some (.fz (.int 1)), some (.fz (lI u)), some (.fz (.int 1)), some (.fz (.int 1)), some (.ow (.lst ((rowI (max v.length u.length) fun k => 0 + if k < i then v.getD k 0 else 0).map D.int))), c10], ⟨none, ?_⟩, ?_, ?_⟩⟩))))))
  · rw [List.length_map]
    omega
  · rw [row_congr (R' := fun k => 0 + if k < 0 then v.getD k 0 else 0) (fun k => by rw [if_neg (by omega)]; rfl)]
    rfl
  · rintro i ρ2 hi ⟨c10, rfl⟩
    rw [List.length_map, Int.toNat_natCast] at hi
    refine ⟨_, gd_name, ?_⟩
    refine sw_augI rfl rfl ?_
    walk_at "rd"
    refine ⟨rfl, by omega, by rw [row_len]; omega, ?_⟩
    walk_at "rd"
    refine ⟨_, opv_ixIL rfl (by omega) (by omega), ?_⟩
    walk_at "rd"
    refine ⟨rfl, some (.fz (.int i)), ?_⟩
    rw [Int.toNat_natCast]
    rw [row_acc (by omega) (by simp)]
    rfl
  · rintro ρ2 ⟨c10, rfl⟩
    have e1 : ((lI v : D) = lI v) → (rowI (max v.length u.length) fun k => 0 + if k < (v.map D.int).length then v.getD k 0 else 0) = rowI (max v.length u.length) fun k => v.getD k 0 + if k < 0 then -1 * u.getD k 0 else 0 := fun _ => row_congr fun k => by
      rw [List.length_map, if_neg (Nat.not_lt_zero k), Int.zero_add, Int.add_zero]
      split
      · rfl
      · rw [getD_out (by omega)]
    rw [Int.toNat_natCast, e1 rfl]
    refine sw_seq (sw_forR (aw_cons (ew_cb (aw_cons (ew_var rfl (aw_nil ⟨_, cbv_lenL rfl, aw_nil ⟨_, rfl, ?_, fun i ρ => ∃ c10, ρ = [some (.fz (pyD v)), some (.fz (.int 1)), some (.fz (pyD u)), some (.fz (.int (-1))), some (.fz (lI v)), some (.fz (.int 1)), some (.fz (lI u)), some (.fz (.int 1)), some (.fz (.int 1)), some (.ow (.lst ((rowI (max v.length u.length) fun k => v.getD k 0 + if k < i then -1 * u.getD k 0 else 0).map D.int))), c10], ⟨_, rfl⟩, ?_, ?_⟩⟩))))))
    · rw [List.length_map]
      omega
    · rintro i ρ2 hi ⟨c10, rfl⟩
      rw [List.length_map, Int.toNat_natCast] at hi
      refine ⟨_, gd_name, ?_⟩
      refine sw_augI rfl rfl ?_
      walk_at "rd"
      refine ⟨rfl, by omega, by rw [row_len]; omega, ?_⟩
      walk_at "rd"
      refine ⟨_, opv_ixIL rfl (by omega) (by omega), ?_⟩
      walk_at "rd"
      refine ⟨rfl, some (.fz (.int i)), ?_⟩
      rw [Int.toNat_natCast]
      rw [row_acc (by omega) (by simp)]
      rfl
    · rintro ρ2 ⟨c10, rfl⟩
      have e2 : (rowI (max v.length u.length) fun k => v.getD k 0 + if k < (u.map D.int).length then -1 * u.getD k 0 else 0) = subR v u := row_congr fun k => by
        rw [List.length_map]
        split
        · rfl
        · rw [getD_out (v := u) (by omega)]
          rfl
      rw [Int.toNat_natCast, e2]
      refine sw_freeze (i := 9) rfl ?_
      have hsl : (subR v u).length = max v.length u.length := row_len
      refine sw_ret (ew_callP rfl trivial (aw_cons (ew_var rfl (aw_cons (ew_var rfl (aw_nil ⟨subR v u, rfl, by omega, hc⟩))))))
abbrev c_poly_less : Cn := fun K w ds Ψ Ξ => ∃ v u : List Int, ds = [pyD v, pyD u] ∧ v.length ≤ 50 ∧ u.length ≤ 50 ∧ Ψ (.fz (pyD (trimR (subR v u))))
theorem l_poly_less : ∀ K w ds Ψ Ξ, c_poly_less K w ds Ψ Ξ → ds.length = 2 := fun K w ds Ψ Ξ h => by
  obtain ⟨_, _, rfl, _⟩ := h
  rfl
theorem ok_poly_less {P : Program} {w : World} {K : PySem.W.Frag} {mg : Str → Option Value} {base : Heap} {A : Ad} (T : Txt K mg A) : FnOk P w K mg base CX0 6 A.poly_less A.fd_poly_less ["one", "other"] (SpD K AnyR c_poly_less) := by
  refine Fun.ok T.F_poly_less sc_poly_less (fun vs H Q E h => spd_len (l_poly_less) h) (fun cdv A' outer s H vs Q E hr h => ⟨_, (pss_one (ps_ret (pe_call (ok_combined_polys T) (hr.mono (by decide)) (by rfl) T.m_combined_polys T.F_combined_polys.kp (b_combined_polys T) .nil pass0 (pa_cons (pv 0) (pa_cons pe_int (pa_cons (pv 1) (pa_cons (pe_un un_neg pe_int) pa_nil))))))), ?_⟩)
  refine body_ok 2 (by decide) (l_poly_less) h (fun Γ ds Ψ Ξ hK hX hF hc ke => ?_)
  subst hK
  obtain ⟨v, u, rfl, hv, hu, hc⟩ := hc
  walk_at "rd"
  exact ⟨hv, hu, hc⟩
def mulR (v u : List Int) : List Int := if v = [] ∨ u = [] then [] else rowI (v.length + u.length - 1) (conv v u)
abbrev c_multiplied_rows : Cn := fun K w ds Ψ Ξ => ∃ v u : List Int, ds = [lI v, lI u] ∧ v.length ≤ 50 ∧ u.length ≤ 50 ∧ Big 100000 v ∧ Big 100000 u ∧ Ψ (.fz (lI (mulR v u)))
theorem l_multiplied_rows : ∀ K w ds Ψ Ξ, c_multiplied_rows K w ds Ψ Ξ → ds.length = 2 := fun K w ds Ψ Ξ h => by
  obtain ⟨_, _, rfl, _⟩ := h
  rfl
theorem ok_multiplied_rows {P : Program} {w : World} {K : PySem.W.Frag} {mg : Str → Option Value} {base : Heap} {A : Ad} (T : Txt K mg A) : FnOk P w K mg base CX0 1 A.multiplied_rows A.fd_multiplied_rows ["one", "other"] (SpD K AnyR c_multiplied_rows) := by
  refine Fun.ok T.F_multiplied_rows sc_multiplied_rows (fun vs H Q E h => spd_len (l_multiplied_rows) h) (fun cdv A' outer s H vs Q E hr h => ⟨_, (pss_cons (ps_if (PW.pt (pw_or (pt_not (pt_truth (pv 0) (by intro _; rfl))) (pw_or1 (pt_not (pt_truth (pv 1) (by intro _; rfl)))))) (pss_one (ps_ret (pe_lst pa_nil))) pss_nil)
        (pss_cons (ps_set (i := 2) sc_multiplied_rows.nd rfl (.inl rfl) (pe_op op_rep (pe_lst (pa_cons pe_int pa_nil)) (pe_op op_sub (pe_op op_add (pe_callB call_len_seq (by rfl) T.b_len (by decide +kernel) (pa_cons (pv 0) pa_nil)) (pe_callB call_len_seq (by rfl) T.b_len (by decide +kernel) (pa_cons (pv 1) pa_nil))) pe_int)))
        (pss_cons (ps_for PassesOwn.never rfl (pi_range1 (by rfl) T.b_range (pa_cons (pe_callB call_len_seq (by rfl) T.b_len (by decide +kernel) (pa_cons (pv 0) pa_nil)) pa_nil)) (pg_name (i := 3) sc_multiplied_rows.nd rfl (.inl rfl)) (pss_one (ps_for PassesOwn.never rfl (pi_range1 (by rfl) T.b_range (pa_cons (pe_callB call_len_seq (by rfl) T.b_len (by decide +kernel) (pa_cons (pv 1) pa_nil)) pa_nil)) (pg_name (i := 4) sc_multiplied_rows.nd rfl (.inl rfl)) (pss_one (ps_augS (pv 2) (pe_op op_add (pv 3) (pv 4)) get_own (pe_op op_mulW (pe_ix ix_list (pv 0) (pv 3) (fun _ _ => rfl)) (pe_ix ix_list (pv 1) (pv 4) (fun _ _ => rfl))) ip_add set_list)))))
        (pss_one (ps_ret (pv 2)))))), ?_⟩)
  refine body_ok 2 (by decide) (l_multiplied_rows) h (fun Γ ds Ψ Ξ hK hX hF hc ke => ?_)
  subst hK
  obtain ⟨v, u, rfl, hv, hu, bv, bu, hc⟩ := hc
  refine sw_cut (fun ρ => ρ = [some (.fz (lI v)), some (.fz (lI u)), none, none, none] ∧ v ≠ [] ∧ u ≠ []) (sw_if ?_) ?_
  · cases v with
    | nil =>
      walk_at "rd"
      exact hc
    | cons x v =>
      cases u with
      | nil =>
        walk_at "rd"
        exact hc
      | cons y u =>
        walk_at "rd"
        exact ⟨rfl, (fun e => by cases e), (fun e => by cases e)⟩
  rintro ρ ⟨rfl, nv, nu⟩
  have pv := List.length_pos_iff.mpr nv
  have pu := List.length_pos_iff.mpr nu
  have em : mulR v u = rowI (v.length + u.length - 1) (conv v u) := by
    unfold mulR
    rw [if_neg (by simp [nv, nu])]
  rw [em] at hc
  have en : ((v.length : Int) + (u.length : Int) - 1).toNat = v.length + u.length - 1 := by omega
  refine sw_seq (sw_asgB (eb_rep (aw_cons (ew_int (aw_nil ⟨by decide, fun c => ?_⟩)))))
  walk_at "rd"
  rw [List.length_map, List.length_map]
  refine ⟨by omega, by rw [en]; show 1 * _ ≤ _; omega, ?_⟩
  rw [flat_rep1, en]
  generalize hN : v.length + u.length - 1 = N
  rw [hN] at hc
  have e0 : List.replicate N (D.int 0) = (rowI N fun _ => 0).map D.int := by rw [← row_zero, List.map_replicate]
  rw [e0]
  refine sw_seq (sw_forR (aw_cons (ew_cb (aw_cons (ew_var rfl (aw_nil ⟨_, cbv_lenL rfl, aw_nil ⟨_, rfl, ?_, fun i ρ => ∃ (R : Nat → Int) (c3 c4 : Option B), ρ = [some (.fz (lI v)), some (.fz (lI u)), some (.ow (.lst ((rowI N R).map D.int))), c3, c4] ∧ ∀ k, R k + sft i (conv (v.drop i) u) k = conv v u k, ⟨_, none, none, rfl, fun k => ?_⟩, ?_, ?_⟩⟩))))))
  · rw [List.length_map]
    omega
  · rw [List.drop_zero, Int.zero_add]
    rfl
  · rintro i ρ2 hi ⟨R, c3, c4, rfl, hR⟩
    rw [List.length_map, Int.toNat_natCast] at hi
    have hx' : v[i]? = some v[i] := List.getElem?_eq_getElem hi
    refine ⟨_, gd_name, ?_⟩
    refine sw_forR (aw_cons (ew_cb (aw_cons (ew_var rfl (aw_nil ⟨_, cbv_lenL rfl, aw_nil ⟨_, rfl, ?_, fun j ρ => ∃ (R' : Nat → Int) (c4 : Option B), ρ = [some (.fz (lI v)), some (.fz (lI u)), some (.ow (.lst ((rowI N R').map D.int))), some (.fz (.int i)), c4] ∧ ∀ k, R' k + v[i] * sft (i + j) (fun m => (u.drop j).getD m 0) k = R k + v[i] * sft i (fun m => u.getD m 0) k, ⟨_, _, rfl, fun k => ?_⟩, ?_, ?_⟩⟩)))))
    · rw [List.length_map]
      omega
    · rw [List.drop_zero, Nat.add_zero]
    · rintro j ρ2 hj ⟨R', c4, rfl, hR'⟩
      rw [List.length_map, Int.toNat_natCast] at hj
      have hy' : u[j]? = some u[j] := List.getElem?_eq_getElem hj
      refine ⟨_, gd_name, ?_⟩
      have hp : i + j < N := by omega
      refine sw_augI rfl rfl ?_
      walk_at "rd"
      refine ⟨rfl, by omega, by rw [row_len]; omega, ?_⟩
      walk_at "rd"
      refine ⟨_, opv_ixIL rfl (by omega) (by omega), ?_⟩
      walk_at "rd"
      refine ⟨_, opv_ixIL rfl (by omega) (by omega), ?_⟩
      refine ⟨_, opv_intC (mwG (big_getD bv _) (big_getD bu _) (by decide)), ?_⟩
      have ej : ((i : Int) + (j : Int)).toNat = i + j := by omega
      have ev : v.getD (i : Int).toNat 0 = v[i] := by
        rw [Int.toNat_natCast, List.getD_eq_getElem?_getD, hx']
        rfl
      have eu : u.getD (j : Int).toNat 0 = u[j] := by
        rw [Int.toNat_natCast, List.getD_eq_getElem?_getD, hy']
        rfl
      rw [ej, row_get hp, ev, eu]
      refine ⟨_, rfl, rfl, fun k => if k = i + j then R' (i + j) + v[i] * u[j] else R' k, some (.fz (.int j)), ?_, fun k => ?_⟩
      · rw [← row_set]
        rfl
      · rw [← hR' k, ← inn_step (x := v[i]) (p := i + j) (R := R') hy' k]
        rfl
    · rintro ρ2 ⟨R', c4, rfl, hR'⟩
      refine ⟨R', _, _, rfl, fun k => ?_⟩
      have e1 := hR' k
      rw [List.length_map, Int.toNat_natCast, sft_nil] at e1
      rw [← hR k, out_step hx' k]
      grind
  · rintro ρ2 ⟨R, c3, c4, rfl, hR⟩
    have e : rowI N R = rowI N (conv v u) := row_congr fun k => by
      have := hR k
      rw [List.length_map, Int.toNat_natCast, conv_all (Nat.le_refl _)] at this
      rw [← this, Int.add_zero]
    rw [e]
    refine sw_freeze (i := 2) rfl ?_
    exact sw_ret (ew_var rfl hc)
abbrev c_multiplied_polys : Cn := fun K w ds Ψ Ξ => ∃ v u : List Int, ds = [pyD v, pyD u] ∧ v.length ≤ 50 ∧ u.length ≤ 50 ∧ Big 100000 v ∧ Big 100000 u ∧ Ψ (.fz (pyD (trimR (mulR v u))))
theorem mulR_len {v u : List Int} : (mulR v u).length ≤ v.length + u.length := by
  unfold mulR
  split
  · exact Nat.zero_le _
  · rw [row_len]
    omega
theorem l_multiplied_polys : ∀ K w ds Ψ Ξ, c_multiplied_polys K w ds Ψ Ξ → ds.length = 2 := fun K w ds Ψ Ξ h => by
  obtain ⟨_, _, rfl, _⟩ := h
  rfl
theorem ok_multiplied_polys {P : Program} {w : World} {K : PySem.W.Frag} {mg : Str → Option Value} {base : Heap} {A : Ad} (T : Txt K mg A) : FnOk P w K mg base CX0 5 A.multiplied_polys A.fd_multiplied_polys ["one", "other"] (SpD K AnyR c_multiplied_polys) := by
  refine Fun.ok T.F_multiplied_polys sc_multiplied_polys (fun vs H Q E h => spd_len (l_multiplied_polys) h) (fun cdv A' outer s H vs Q E hr h => ⟨_, (pss_cons (ps_asg (pe_call (ok_whole_parts T) (hr.mono (by decide)) (by rfl) T.m_whole_parts T.F_whole_parts.kp (b_whole_parts T) .nil pass0 (pa_cons (pv 0) pa_nil)) (pg_tup (by rfl) (pgs_cons (pg_name (i := 2) sc_multiplied_polys.nd rfl (.inl rfl)) (pgs_cons (pg_name (i := 3) sc_multiplied_polys.nd rfl (.inl rfl)) pgs_nil))))
        (pss_cons (ps_asg (pe_call (ok_whole_parts T) (hr.mono (by decide)) (by rfl) T.m_whole_parts T.F_whole_parts.kp (b_whole_parts T) .nil pass0 (pa_cons (pv 1) pa_nil)) (pg_tup (by rfl) (pgs_cons (pg_name (i := 4) sc_multiplied_polys.nd rfl (.inl rfl)) (pgs_cons (pg_name (i := 5) sc_multiplied_polys.nd rfl (.inl rfl)) pgs_nil))))
        (pss_one (ps_ret (pe_call (ok_poly_from T) (hr.mono (by decide)) (by rfl) T.m_poly_from T.F_poly_from.kp (b_poly_from T) .nil pass0 (pa_cons (pe_call (ok_multiplied_rows T) (hr.mono (by decide)) (by rfl) T.m_multiplied_rows T.F_multiplied_rows.kp (b_multiplied_rows T) .nil pass0 (pa_cons (pv 2) (pa_cons (pv 4) pa_nil))) (pa_cons (pe_op op_mul (pv 3) (pv 5)) pa_nil))))))), ?_⟩)
  refine body_ok 2 (by decide) (l_multiplied_polys) h (fun Γ ds Ψ Ξ hK hX hF hc ke => ?_)
  subst hK
  obtain ⟨v, u, rfl, hv, hu, bv, bu, hc⟩ := hc
  refine sw_seq ?_
  walk_at "ru"
  refine ⟨by omega, _, _, rfl, ?_⟩
  refine sw_seq ?_
  walk_at "ru"
  refine ⟨by omega, _, _, rfl, ?_⟩
  have hml := mulR_len (v := v) (u := u)
  walk_at "rd"
  refine ⟨hv, hu, bv, bu, ?_⟩
  walk_at "rd"
  exact ⟨by omega, hc⟩
abbrev c_poly_times : Cn := fun K w ds Ψ Ξ => ∃ v u : List Int, ds = [pyD v, pyD u] ∧ v.length ≤ 50 ∧ u.length ≤ 50 ∧ Big 100000 v ∧ Big 100000 u ∧ Ψ (.fz (pyD (trimR (mulR v u))))
theorem l_poly_times : ∀ K w ds Ψ Ξ, c_poly_times K w ds Ψ Ξ → ds.length = 2 := fun K w ds Ψ Ξ h => by
  obtain ⟨_, _, rfl, _⟩ := h
  rfl
theorem ok_poly_times {P : Program} {w : World} {K : PySem.W.Frag} {mg : Str → Option Value} {base : Heap} {A : Ad} (T : Txt K mg A) : FnOk P w K mg base CX0 6 A.poly_times A.fd_poly_times ["one", "other"] (SpD K AnyR c_poly_times) := by
  refine Fun.ok T.F_poly_times sc_poly_times (fun vs H Q E h => spd_len (l_poly_times) h) (fun cdv A' outer s H vs Q E hr h => ⟨_, (pss_one (ps_ret (pe_call (ok_multiplied_polys T) (hr.mono (by decide)) (by rfl) T.m_multiplied_polys T.F_multiplied_polys.kp (b_multiplied_polys T) .nil pass0 (pa_cons (pv 0) (pa_cons (pv 1) pa_nil))))), ?_⟩)
  refine body_ok 2 (by decide) (l_poly_times) h (fun Γ ds Ψ Ξ hK hX hF hc ke => ?_)
  subst hK
  obtain ⟨v, u, rfl, hv, hu, bv, bu, hc⟩ := hc
  walk_at "rd"
  exact ⟨hv, hu, bv, bu, hc⟩
end Pf

namespace Pf
open PySem L2 Dl Sh
open Evl (Ex)
open Ry
local macro_rules | `(tactic| walk_at "r0") => `(tactic| with_reducible first
  | refine sw_seq ?_
  | refine ew_var rfl ?_
  | refine ew_int ?_
  | refine ew_bl ?_
  | refine ew_non ?_
  | refine ew_str ?_
  | refine aw_cons ?_
  | refine aw_nil ?_
  | refine sw_par ?_
  | refine sw_next ?_
  | refine sw_if ?_
  | refine sw_ret ?_
  | refine tw_not ?_
  | refine tw_and ?_
  | refine tw_or ?_
  | refine tw_test ?_
  | refine tw_B ?_
  | refine tw_tru rfl ?_
  | refine ew_andV ?_
  | refine ew_orV ?_
  | refine ew_notV ?_
  | refine ew_if ?_
  | refine ew_chain ?_
  | refine ew_isN ?_
  | refine ew_tup ?_
  | refine ew_lst ?_
  | refine ew_isiD isN_int rfl ?_
  | refine ew_isiD isN_bool rfl ?_
  | refine ew_isiD isN_tuple rfl ?_
  | refine ew_isiD isN_list rfl ?_
  | refine ew_isiD isN_str rfl ?_
  | refine ew_isi2D isN_list isN_tuple rfl ?_
  | refine ew_isi2D isN_tuple isN_list rfl ?_
  | refine ew_cb ?_
  | refine ew_neg ?_
  | refine ew_op ?_
  | refine ⟨_, opv_int, ?_⟩
  | refine ⟨_, opv_cmp, ?_⟩
  | refine ⟨_, opv_eq, ?_⟩
  | refine ⟨_, opv_ne, ?_⟩
  | refine ⟨_, opv_eqB, ?_⟩
  | refine ⟨_, opv_eqS, ?_⟩
  | refine ⟨_, cbv_abs, ?_⟩
  | refine ⟨_, cbv_max2, ?_⟩
  | refine ⟨_, cbv_min2, ?_⟩
  | refine pw_none ?_
  | refine pw_some ?_
  | refine ⟨_, cbv_int, ?_⟩
  | refine ⟨_, rfl, ?_⟩
  | refine ⟨_, _, rfl, ?_⟩
  | refine ⟨_, _, _, rfl, ?_⟩
  | refine ⟨_, _, _, _, rfl, ?_⟩
  | refine br_t ?_
  | refine br_f ?_
  | refine ⟨dt_int, ?_⟩
  | refine ⟨dt_bl, ?_⟩
  | refine ⟨dt_str, ?_⟩
  | refine ⟨dt_non, ?_⟩
  | refine ⟨dt_tup, ?_⟩
  | refine ⟨dt_lst, ?_⟩
  | refine sw_asg ?_
  | refine sw_drop ?_)
local macro_rules | `(tactic| walk_at "r1") => `(tactic| first
  | ((with_reducible refine ew_tupL ?hK ?_); (case hK => rfl))
  | ((with_reducible refine ew_catT ?hK ?_); (case hK => rfl))
  | ((with_reducible refine ew_repT ?hK ?_); (case hK => rfl))
  | ((with_reducible refine ew_of_eb (eb_listL ?hK ?_)); (case hK => rfl))
  | ((with_reducible refine ew_of_eb (eb_cutL ?hK ?_)); (case hK => rfl))
  | walk_at "r0"
  | ((with_reducible refine ew_of_eb (eb_mapT ?hV ?hK ?_)); (case hK => rfl); (case hV => rfl))
  | ((with_reducible refine ew_of_eb (eb_mapL ?hV ?hK ?_)); (case hK => rfl); (case hV => rfl))
  | ((with_reducible refine ew_of_eb (eb_mapR ?hV ?_)); (case hV => rfl))
  | ((with_reducible refine ew_callP ?hK trivial ?_); (case hK => rfl))
  | ((with_reducible refine ew_callW ?hK trivial ?_); (case hK => rfl))
  | ((with_reducible refine ew_callH ?hK trivial ?_); (case hK => rfl))
  | ((with_reducible refine ew_callR ?hK ?hF ?_); (case hK => rfl); (case hF => assumption))
  | ((with_reducible refine len_ok ?hK ?_); (case hK => rfl))
  | ((with_reducible refine ew_notT ?hK ?_); (case hK => rfl))
  | ((with_reducible refine ew_cutT ?hK ?_); (case hK => rfl))
  | ((with_reducible refine ⟨(?hK : Dt _ _), ?_⟩); (case hK => assumption))
  | ((with_reducible refine sw_unp2 ?hK ?hn ?_); (case hK => rfl); (case hn => rfl)))
local macro_rules | `(tactic| walk_at "side") => `(tactic| first
  | exact Or.inr (by decide)
  | exact Or.inl (by decide)
  | exact ⟨by decide, by decide⟩
  | exact ⟨by decide, by decide, by decide⟩
  | decide
  | (dsimp only; decide)
  | exact mw (by assumption) (by assumption))
local macro_rules | `(tactic| walk_at "r2") => `(tactic| first
  | walk_at "r1"
  | ((with_reducible refine ⟨_, opv_intC ?hC, ?_⟩); (case hC => walk_at "side"))
  | ((with_reducible refine ⟨_, cbv_lenL ?hK, ?_⟩); (case hK => rfl))
  | ((with_reducible refine ⟨_, cbv_allM ?hK, ?_⟩); (case hK => rfl))
  | ((with_reducible refine ⟨_, cbv_anyM ?hK, ?_⟩); (case hK => rfl))
  | ((with_reducible refine ⟨_, cbv_sumM ?hK, ?_⟩); (case hK => rfl))
  | ((with_reducible refine ⟨_, cbv_lenT ?hK, ?_⟩); (case hK => rfl))
  | (with_reducible refine ⟨_, opv_ixT (by with_unfolding_all rfl) (by with_unfolding_all rfl), ?_⟩)
  | refine br_t ?_
  | refine br_f ?_)
local macro_rules | `(tactic| walk_at "rd") => `(tactic| repeat (walk_at "r2"))
local macro_rules | `(tactic| walk_at "rs") => `(tactic| repeat ((fail_if_success (with_reducible refine sw_isif ?_)); walk_at "r2"))
local macro_rules | `(tactic| walk_at "nf") => `(tactic| (try simp only [List.set_cons_zero, List.set_cons_succ, Dl.sets, Dl.asD]))
local macro_rules | `(tactic| walk_at "ru") => `(tactic| repeat ((fail_if_success (with_reducible refine sw_seq ?_)); walk_at "r2"))

theorem sw_forD {Γ : Dl.Ctx} {ρ : Dl.Env} {ts : TS} {Δ : Dl.Fin} {ta : TA} {g : TG} (h : AW Γ ta ρ fun ds ρ1 => ∃ hi lo : Int, ds = [.int hi, .int lo, .int (-1)] ∧ (-1000000 ≤ lo ∧ lo ≤ 1000000 ∧ -1000000 ≤ hi ∧ hi ≤ 1000000) ∧ ∃ J : Nat → Dl.Env → Prop, J 0 ρ1 ∧
    (∀ i ρ2, i < (hi - lo).toNat → J i ρ2 → Turn1 Γ g ts Δ (.int (hi + (i : Int) * (-1))) ρ2 (J (i + 1))) ∧ (∀ ρ2, J (hi - lo).toNat ρ2 → Δ.nx ρ2)) : SW Γ (tFor (iRng3 ta) g ts) ρ Δ := fun σ G H D k hn hr hb hc =>
  h σ G H _ k fun ds ρ1 vs G1 H1 e1 k1 r1 ⟨hi, lo, e, b1, J, i0, is, id⟩ => by
    subst e
    cases r1 with
    | cons r r' => cases r' with
      | cons r2 r' => cases r' with
        | cons r3 r' => cases r' with
          | nil =>
            cases r
            cases r2
            cases r3
            exact ⟨hi, lo, -1, (hi - lo).toNat, rfl, RgC.neg (by omega) (by omega) (by omega) (by omega), for_rangeC (lo := hi) (c := -1) (n := (hi - lo).toNat) (fun i σ H => ∃ G ρ2, Ex G1 G ∧ Ok Γ G H σ ρ2 ∧ J i ρ2) ⟨G1, ρ1, Ex.refl _, k1, i0⟩ (fun i σ H hi ⟨G2, ρ2, e2, k2, p2⟩ =>
              (is i ρ2 hi p2).run k2 e1 e2 (.int _) hn hr fun _ _ h => h) (fun σ H ⟨G2, ρ2, e2, k2, p2⟩ => hn ρ2 σ G2 H (e1.trans e2) k2 (id ρ2 p2))⟩
/-- the top of a polynomial's value at a / b, the bottom being b to the power of one less than its members -/
def hT : List Int → Int → Int → Int
  | [], _, _ => 0
  | x :: u, a, b => hT u a b * a + x * b ^ u.length
theorem pow_bd {b : Int} (hb : b.natAbs < 2 ^ 100) : ∀ n : Nat, (b ^ n).natAbs < 2 ^ (100 * n + 1)
  | 0 => by
    rw [Int.pow_zero]
    decide
  | n + 1 => by
    rw [Int.pow_succ]
    exact pow_up (mul_bd (pow_bd hb n) hb) (by omega)
theorem hT_bd {a b : Int} (ha : a.natAbs < 2 ^ 100) (hb : b.natAbs < 2 ^ 100) : ∀ {u : List Int}, Big 2000 u → (hT u a b).natAbs < 2 ^ (2000 + 102 * u.length)
  | [], _ => Nat.pos_of_ne_zero (fun e => by simp at e)
  | x :: u, h => by
    have h1 := mul_bd (hT_bd ha hb (u := u) fun y hy => h y (List.mem_cons_of_mem _ hy)) ha
    have h2 := pow_up (mul_bd (h x List.mem_cons_self) (pow_bd hb u.length)) (show 2000 + (100 * u.length + 1) ≤ 2000 + 102 * u.length + 100 by omega)
    show (hT u a b * a + x * b ^ u.length).natAbs < _
    refine pow_up (add_bd (pow_up h1 (show _ ≤ 2000 + 102 * u.length + 100 + 1 by omega)) (pow_up h2 (by omega))) ?_
    rw [List.length_cons]
    omega
/-- the value of a polynomial of integers at a share -/
def valS (v : List Int) (p : Int × Int) : Int × Int := if v = [] then (0, 1) else red (hT v p.1 p.2) (p.2 ^ (v.length - 1))
abbrev c_value_of_rows : Cn := fun K w ds Ψ Ξ => ∃ (v : List Int) (p : Int × Int), ds = [lI v, .int 1, shD p] ∧ 0 < p.2 ∧ p.1.natAbs < 2 ^ 100 ∧ p.2.natAbs < 2 ^ 100 ∧ v.length ≤ 50 ∧ Big 2000 v ∧ Ψ (.fz (shD (valS v p)))
theorem l_value_of_rows : ∀ K w ds Ψ Ξ, c_value_of_rows K w ds Ψ Ξ → ds.length = 3 := fun K w ds Ψ Ξ h => by
  obtain ⟨_, _, rfl, _⟩ := h
  rfl
theorem ok_value_of_rows {P : Program} {w : World} {K : PySem.W.Frag} {mg : Str → Option Value} {base : Heap} {A : Ad} (T : Txt K mg A) : FnOk P w K mg base CX0 3 A.value_of_rows A.fd_value_of_rows ["numbers", "bottom", "x"] (SpD K AnyR c_value_of_rows) := by
  refine Fun.ok T.F_value_of_rows sc_value_of_rows (fun vs H Q E h => spd_len (l_value_of_rows) h) (fun cdv A' outer s H vs Q E hr h => ⟨_, (pss_cons (ps_asg (pv 2) (pg_tup (by rfl) (pgs_cons (pg_name (i := 3) sc_value_of_rows.nd rfl (.inl rfl)) (pgs_cons (pg_name (i := 4) sc_value_of_rows.nd rfl (.inl rfl)) pgs_nil))))
        (pss_cons (ps_asg (pe_tup (pa_cons pe_int (pa_cons pe_int pa_nil))) (pg_tup (by rfl) (pgs_cons (pg_name (i := 5) sc_value_of_rows.nd rfl (.inl rfl)) (pgs_cons (pg_name (i := 6) sc_value_of_rows.nd rfl (.inl rfl)) pgs_nil))))
        (pss_cons (ps_for PassesOwn.never rfl (pi_range3 (by rfl) T.b_range (pa_cons (pe_op op_sub (pe_callB call_len_seq (by rfl) T.b_len (by decide +kernel) (pa_cons (pv 0) pa_nil)) pe_int) (pa_cons (pe_un un_neg pe_int) (pa_cons (pe_un un_neg pe_int) pa_nil)))) (pg_name (i := 7) sc_value_of_rows.nd rfl (.inl rfl)) (pss_cons (ps_set (i := 5) sc_value_of_rows.nd rfl (.inl rfl) (pe_op op_add (pe_op op_mulW (pv 5) (pv 3)) (pe_op op_mulW (pe_ix ix_list (pv 0) (pv 7) (fun _ _ => rfl)) (pv 6))))
        (pss_one (ps_set (i := 6) sc_value_of_rows.nd rfl (.inl rfl) (pe_op op_mulW (pv 6) (pv 4))))))
        (pss_cons (ps_if (pt_not (pt_truth (pv 0) (by intro _; rfl))) (pss_one (ps_ret (pe_glob (v := .ref A.k_NOUGHT) (by rfl) T.m_NOUGHT rfl))) pss_nil)
        (pss_one (ps_ret (pe_call (ok_reduced_pair T) (hr.mono (by decide)) (by rfl) T.m_reduced_pair T.F_reduced_pair.kp (b_reduced_pair T) .nil pass0 (pa_cons (pv 5) (pa_cons (pe_op op_mulW (pv 1) (pe_op op_fdivG (pv 6) (pv 4))) pa_nil))))))))), ?_⟩)
  refine body_ok 3 (by decide) (l_value_of_rows) h (fun Γ ds Ψ Ξ hK hX hF hc ke => ?_)
  subst hK
  obtain ⟨v, p, rfl, hp, ba, bb, hl, bv, hc⟩ := hc
  refine sw_seq ?_
  walk_at "ru"
  refine sw_seq ?_
  walk_at "ru"
  refine sw_seq (sw_forD ?_)
  walk_at "rd"
  rw [List.length_map]
  have en : ((v.length : Int) - 1 - (-1)).toNat = v.length := by omega
  have hbg : ∀ j, Big 2000 (v.drop j) := fun j x hx => bv x (List.mem_of_mem_drop hx)
  refine ⟨by omega, fun i ρ => ∃ c7, ρ = [some (.fz (lI v)), some (.fz (.int 1)), some (.fz (shD p)), some (.fz (.int p.1)), some (.fz (.int p.2)), some (.fz (.int (hT (v.drop (v.length - i)) p.1 p.2))), some (.fz (.int (p.2 ^ i))), c7], ⟨none, ?_⟩, ?_, ?_⟩
  · rw [Nat.sub_zero, List.drop_length, Int.pow_zero]
    rfl
  · rintro i ρ2 hi ⟨c7, rfl⟩
    rw [en] at hi
    have ek : (v.length : Int) - 1 + (i : Int) * (-1) = ((v.length - 1 - i : Nat) : Int) := by omega
    rw [ek]
    refine ⟨_, gd_name, ?_⟩
    have hj : v.length - 1 - i < v.length := by omega
    have hd : v.drop (v.length - (i + 1)) = v[v.length - 1 - i] :: v.drop (v.length - i) := by
      have e1 : v.length - (i + 1) = v.length - 1 - i := by omega
      have e2 : v.length - i = v.length - 1 - i + 1 := by omega
      rw [e1, e2]
      exact List.drop_eq_getElem_cons hj
    have hlen : (v.drop (v.length - i)).length = i := by
      rw [List.length_drop]
      omega
    have hb1 := pow_up (hT_bd ba bb (hbg (v.length - i))) (show _ ≤ 10000 by rw [hlen]; omega)
    have hb2 := pow_up (pow_bd bb i) (show _ ≤ 10000 by omega)
    walk_at "rd"
    refine ⟨_, opv_intC (mwG hb1 ba (by decide)), ?_⟩
    walk_at "rd"
    refine ⟨_, opv_ixIL rfl (by omega) (by omega), ?_⟩
    walk_at "rd"
    refine ⟨_, opv_intC (mwG (big_getD bv _) hb2 (by decide)), ?_⟩
    walk_at "rd"
    refine ⟨_, opv_intC (mwG hb2 bb (by decide)), ?_⟩
    refine ⟨some (.fz (.int ((v.length - 1 - i : Nat) : Int))), ?_⟩
    have ev : v.getD ((v.length - 1 - i : Nat) : Int).toNat 0 = v[v.length - 1 - i] := by
      rw [Int.toNat_natCast, List.getD_eq_getElem?_getD, List.getElem?_eq_getElem hj]
      rfl
    rw [ev, hd]
    have eh : hT (v[v.length - 1 - i] :: v.drop (v.length - i)) p.1 p.2 = hT (v.drop (v.length - i)) p.1 p.2 * p.1 + v[v.length - 1 - i] * p.2 ^ i := by
      show hT (v.drop (v.length - i)) p.1 p.2 * p.1 + v[v.length - 1 - i] * p.2 ^ (v.drop (v.length - i)).length = _
      rw [hlen]
    rw [eh, Int.pow_succ]
    rfl
  · rintro ρ2 ⟨c7, rfl⟩
    rw [en, Nat.sub_self, List.drop_zero]
    cases v with
    | nil =>
      refine sw_seq ?_
      walk_at "rd"
      refine ew_ref T.k_NOUGHT (fun G => .cons (.int 0) (.cons (.int 1) .nil)) ?_
      exact hc
    | cons x u =>
      refine sw_seq ?_
      walk_at "rd"
      have hb3 := pow_bd bb (x :: u).length
      have epw : (p.2 ^ (x :: u).length).fdiv p.2 = p.2 ^ u.length := by
        rw [List.length_cons, Int.pow_succ]
        exact Int.mul_fdiv_cancel _ (by omega)
      refine ⟨_, opv_intC (cfd_of (n := 100) (by omega) bb (by decide)), ?_⟩
      have hb4 := pow_up (pow_bd bb u.length) (show 100 * u.length + 1 ≤ 8999 by rw [List.length_cons] at hl; omega)
      rw [epw]
      refine ⟨_, opv_intC (mwG (n := 1) (by decide) hb4 (by decide)), ?_⟩
      walk_at "rd"
      rw [Int.one_mul]
      have hnz : p.2 ^ u.length ≠ 0 := Int.pow_ne_zero (by omega)
      refine ⟨hnz, hb4, ?_⟩
      exact hc
theorem ok_InvalidShare__init {P : Program} {w : World} {K : PySem.W.Frag} {mg : Str → Option Value} {base : Heap} {A : Ad} (T : Txt K mg A) : FnOk P w K mg base CX0 1 A.InvalidShare__init A.fd_InvalidShare__init ["self", "value"] (spInit K A.c_InvalidShare "value") := by
  refine T.F_InvalidShare__init.ok sc_InvalidShare__init (fun vs H Q E h => by obtain ⟨_, _, rfl, _⟩ := h; rfl) (fun cdv A' outer s H vs Q E hr h => ⟨_, (pss_one (ps_ost (pv 0) (pv 1))), body_init T.ox_InvalidShare T.no_InvalidShare_value rfl h⟩)
abbrev c_value_at (A : Ad) : Cn := fun K w ds Ψ Ξ => ∃ (v : List Int) (x : D) (p : Int × Int), ds = [pyD v, x] ∧ AsSh x p ∧ Dt2 K x ∧ (isIntD x || isShD x) = true ∧ 0 < p.2 ∧ p.1.natAbs < 2 ^ 100 ∧ p.2.natAbs < 2 ^ 100 ∧ v.length ≤ 50 ∧ Big 2000 v ∧ Ψ (.fz (shD (valS v p)))
theorem l_value_at (A : Ad) : ∀ K w ds Ψ Ξ, (c_value_at A) K w ds Ψ Ξ → ds.length = 2 := fun K w ds Ψ Ξ h => by
  obtain ⟨_, _, _, rfl, _⟩ := h
  rfl
theorem ok_value_at {P : Program} {w : World} {K : PySem.W.Frag} {mg : Str → Option Value} {base : Heap} {A : Ad} (T : Txt K mg A) : FnOk P w K mg base (L2N.CX P w) 5 A.value_at A.fd_value_at ["poly", "x"] (SpD K AnyR (c_value_at A)) := by
  refine okN T.F_value_at sc_value_at (fun vs H Q E h => spd_len (l_value_at A) h) (fun cdv A' outer s H vs Q E hr h => ⟨_, (pss_cons (ps_if (pt_not (pt_val (pe_call (ok_is_amount T) (hr.mono (by decide)) (by rfl) T.m_is_amount T.F_is_amount.kp (b_is_amount T) .nil pass0 (pa_cons (pv 1) pa_nil)))) (pss_one (L2N.ps_raise rfl (L2N.takes_of rfl rfl rfl rfl) (made_own T.ox_InvalidShare T.i_InvalidShare T.t_InvalidShare (ok_InvalidShare__init T) (hr.mono (by decide)) (b_InvalidShare__init T) (fun _ _ _ _ _ _ _ h => h.elim) (by rfl) T.m_InvalidShare (pa_cons (pv 1) pa_nil)))) pss_nil)
        (pss_cons (ps_asg (pe_call (ok_whole_parts T) (hr.mono (by decide)) (by rfl) T.m_whole_parts T.F_whole_parts.kp (b_whole_parts T) .nil pass0 (pa_cons (pv 0) pa_nil)) (pg_tup (by rfl) (pgs_cons (pg_name (i := 2) sc_value_at.nd rfl (.inl rfl)) (pgs_cons (pg_name (i := 3) sc_value_at.nd rfl (.inl rfl)) pgs_nil))))
        (pss_one (ps_ret (pe_call (ok_value_of_rows T) (hr.mono (by decide)) (by rfl) T.m_value_of_rows T.F_value_of_rows.kp (b_value_of_rows T) .nil pass0 (pa_cons (pv 2) (pa_cons (pv 3) (pa_cons (pe_call (ok_as_share T) (hr.mono (by decide)) (by rfl) T.m_as_share T.F_as_share.kp (b_as_share T) .nil pass0 (pa_cons (pv 1) pa_nil)) pa_nil)))))))), ?_⟩)
  refine body_ok 2 (by decide) (l_value_at A) h (fun Γ ds Ψ Ξ hK hX hF hc ke => ?_)
  subst hK
  obtain ⟨v, x, p, rfl, ha, hx, hs, hp, ba, bb, hl, bv, hc⟩ := hc
  have hx1 := hx.1
  refine sw_seq (sw_if (tw_not (tw_B (ew_callP rfl trivial (aw_cons (ew_var rfl (aw_nil ⟨x, rfl, hx, ?_⟩)))))))
  rw [hs]
  refine ⟨_, rfl, (fun z => by cases z), fun _ => sw_next ?_⟩
  refine sw_seq ?_
  walk_at "ru"
  refine ⟨by omega, _, _, rfl, ?_⟩
  walk_at "rd"
  exact ⟨_, p, rfl, ha, aw_nil ⟨v, p, rfl, hp, ba, bb, hl, bv, hc⟩⟩
abbrev c_poly_of_1 : Cn := fun K w ds Ψ Ξ => ∃ v : List Int, ds = [tI v] ∧ v.length ≤ 1000 ∧ Ψ (.fz (pyD (trimR v)))
abbrev c_poly_of_2 : Cn := fun K w ds Ψ Ξ => ∃ v : List Int, ds = [lI v] ∧ v.length ≤ 1000 ∧ Ψ (.fz (pyD (trimR v)))
def onF : D → D
  | .int i => onD i
  | _ => .non
theorem on_all {v : List Int} : (v.map D.int).map onF = v.map onD := by
  rw [List.map_map]
  rfl
theorem l_poly_of_1 : ∀ K w ds Ψ Ξ, c_poly_of_1 K w ds Ψ Ξ → ds.length = 1 := fun K w ds Ψ Ξ h => by
  obtain ⟨_, rfl, _⟩ := h
  rfl
theorem l_poly_of_2 : ∀ K w ds Ψ Ξ, c_poly_of_2 K w ds Ψ Ξ → ds.length = 1 := fun K w ds Ψ Ξ h => by
  obtain ⟨_, rfl, _⟩ := h
  rfl
abbrev c_poly_of : Cn := COr c_poly_of_1 c_poly_of_2
theorem l_poly_of : ∀ K w ds Ψ Ξ, c_poly_of K w ds Ψ Ξ → ds.length = 1 := fun K w ds Ψ Ξ h => h.elim (l_poly_of_1 K w ds Ψ Ξ) (l_poly_of_2 K w ds Ψ Ξ)
theorem ok_poly_of {P : Program} {w : World} {K : PySem.W.Frag} {mg : Str → Option Value} {base : Heap} {A : Ad} (T : Txt K mg A) : FnOk P w K mg base CX0 3 A.poly_of A.fd_poly_of ["values"] (SpD K AnyR c_poly_of) := by
  refine Fun.ok T.F_poly_of sc_poly_of (fun vs H Q E h => spd_len l_poly_of h) (fun cdv A' outer s H vs Q E hr h => ?_)
  rcases spd_or h with h | h
  · refine ⟨_, (pss_cons (ps_setLc (i := 1) (own := [("value", 2)]) (by rfl) sc_poly_of.nd rfl rfl (sw_true rfl rfl rfl (by decide +kernel)) (pi_tup (pv 0)) (blkOk_by (own := [("value", 2)]) (N := ["values", "row", "value"]) (sc := defScope s_poly_of) (by decide +kernel)) (fun _ _ _ _ _ => (pg_name (i := 2) sc_poly_of.nd rfl (.inl rfl))) (fun _ _ _ _ _ => pts_nil) (fun _ _ _ _ _ => (pe_call (ok_as_share T) (hr.mono (by decide)) (by rfl) T.m_as_share T.F_as_share.kp (b_as_share T) .nil pass0 (pa_cons (pv 2) pa_nil))))
        (pss_cons (ps_while PassesOwn.never (PW.pt (pw_and (pt_truth (pv 1) (by intro _; rfl)) (pw_and1 (pt_cmpR (op_eqD hr.units) (pe_ix ix_list (pv 1) (pe_un un_neg pe_int) (fun _ _ => rfl)) (pe_glob (v := .ref A.k_NOUGHT) (by rfl) T.m_NOUGHT rfl) (nomark _))))) (pss_one (ps_expr (pe_bm0 PySem.F.plainAttrs_list PySem.F.slot_list_pop PySem.F.type_list_pop mt_pop (pv 1)))))
        (pss_one (ps_ret (pe_callTy call_tuple_of (by rfl) T.b_tuple (by decide +kernel) (pa_cons (pv 1) pa_nil)))))), ?_⟩
    refine body_ok 1 (by decide) l_poly_of_1 h (fun Γ ds Ψ Ξ hK hX hF hc ke => ?_)
    subst hK
    obtain ⟨v, rfl, hl, hc⟩ := hc
    refine sw_seq (sw_asgB (eb_mapT rfl rfl (ew_var rfl ⟨_, rfl, (fun es z => by cases z), by rw [List.length_map]; omega, onF, fun x hx c => ?_, ?_⟩)))
    · obtain ⟨y, hy, rfl⟩ := List.mem_map.mp hx
      walk_at "rd"
      exact ⟨_, (y, 1), rfl, .int y, rfl, rfl⟩
    rw [on_all]
    generalize hX : (tI v) = X
    refine sw_cut (fun ρ => ρ = [some (.fz X), some (.ow (.lst ((trimR v).map onD))), none]) (sw_while (fun n ρ => ∃ u : List Int, ρ = [some (.fz X), some (.ow (.lst (u.map onD))), none] ∧ trimR u = trimR v ∧ u.length = n) v.length ⟨v, rfl, rfl, rfl⟩ ?_) ?_
    · rintro n ρ ⟨u, rfl, hu, rfl⟩
      rcases List.eq_nil_or_concat u with rfl | ⟨w', x, rfl⟩
      · refine tw_and (tw_truO rfl rfl ⟨(fun z => by cases z), fun _ => ⟨(fun z => by cases z), fun _ => ?_⟩⟩)
        show _ = _
        rw [← hu]
        rfl
      · rw [List.concat_eq_append] at hu ⊢
        refine tw_and (tw_truO rfl rfl ⟨fun _ => ?_, fun z => absurd z (by simp)⟩)
        refine tw_test (ew_op (ew_ixO rfl rfl (ew_neg (ew_int ⟨_, rfl, _, _, onD x, rfl, rfl, ?_, ew_ref T.k_NOUGHT (fun G => .cons (.int 0) (.cons (.int 1) .nil)) ⟨_, opv_eqD rfl py_pair py_pair shaped_pair shaped_pair, _, rfl, ?_⟩⟩))))
        · rw [List.map_append]
          exact atI_last _ _
        · rw [eqv_pair]
          by_cases hx : x = 0
          · subst hx
            refine ⟨fun _ => ?_, (fun z => by cases z)⟩
            refine sw_drop (ew_pop0O (y := onD 0) rfl ?_ ?_)
            · rw [List.map_append, List.length_append]
              show ((w'.map onD) ++ [onD 0])[(w'.map onD).length + 1 - 1]? = _
              rw [Nat.add_sub_cancel, List.getElem?_append_right (Nat.le_refl _), Nat.sub_self]
              rfl
            · refine ⟨w'.length, by rw [List.length_append]; exact Nat.lt_succ_self _, w', ?_, by rw [← hu, trim_zero], rfl⟩
              rw [List.map_append]
              show [_, some (B.ow (.lst ((w'.map onD ++ [onD 0]).dropLast))), _] = _
              rw [List.dropLast_concat]
          · have e : ((x, (1 : Int)).1 == 0 && ((x, (1 : Int)).2 == 1 && true)) = false := by simp [hx]
            rw [e]
            refine ⟨(fun z => by cases z), fun _ => ?_⟩
            show _ = _
            rw [← hu, trim_snoc hx]
    · rintro ρ rfl
      exact sw_ret (ew_tupO rfl rfl hc)
  · refine ⟨_, (pss_cons (ps_setLc (i := 1) (own := [("value", 2)]) (by rfl) sc_poly_of.nd rfl rfl (sw_true rfl rfl rfl (by decide +kernel)) (pi_list (pv 0)) (blkOk_by (own := [("value", 2)]) (N := ["values", "row", "value"]) (sc := defScope s_poly_of) (by decide +kernel)) (fun _ _ _ _ _ => (pg_name (i := 2) sc_poly_of.nd rfl (.inl rfl))) (fun _ _ _ _ _ => pts_nil) (fun _ _ _ _ _ => (pe_call (ok_as_share T) (hr.mono (by decide)) (by rfl) T.m_as_share T.F_as_share.kp (b_as_share T) .nil pass0 (pa_cons (pv 2) pa_nil))))
        (pss_cons (ps_while PassesOwn.never (PW.pt (pw_and (pt_truth (pv 1) (by intro _; rfl)) (pw_and1 (pt_cmpR (op_eqD hr.units) (pe_ix ix_list (pv 1) (pe_un un_neg pe_int) (fun _ _ => rfl)) (pe_glob (v := .ref A.k_NOUGHT) (by rfl) T.m_NOUGHT rfl) (nomark _))))) (pss_one (ps_expr (pe_bm0 PySem.F.plainAttrs_list PySem.F.slot_list_pop PySem.F.type_list_pop mt_pop (pv 1)))))
        (pss_one (ps_ret (pe_callTy call_tuple_of (by rfl) T.b_tuple (by decide +kernel) (pa_cons (pv 1) pa_nil)))))), ?_⟩
    refine body_ok 1 (by decide) l_poly_of_2 h (fun Γ ds Ψ Ξ hK hX hF hc ke => ?_)
    subst hK
    obtain ⟨v, rfl, hl, hc⟩ := hc
    refine sw_seq (sw_asgB (eb_mapL rfl rfl (ew_var rfl ⟨_, rfl, (fun es z => by cases z), by rw [List.length_map]; omega, onF, fun x hx c => ?_, ?_⟩)))
    · obtain ⟨y, hy, rfl⟩ := List.mem_map.mp hx
      walk_at "rd"
      exact ⟨_, (y, 1), rfl, .int y, rfl, rfl⟩
    rw [on_all]
    generalize hX : (lI v) = X
    refine sw_cut (fun ρ => ρ = [some (.fz X), some (.ow (.lst ((trimR v).map onD))), none]) (sw_while (fun n ρ => ∃ u : List Int, ρ = [some (.fz X), some (.ow (.lst (u.map onD))), none] ∧ trimR u = trimR v ∧ u.length = n) v.length ⟨v, rfl, rfl, rfl⟩ ?_) ?_
    · rintro n ρ ⟨u, rfl, hu, rfl⟩
      rcases List.eq_nil_or_concat u with rfl | ⟨w', x, rfl⟩
      · refine tw_and (tw_truO rfl rfl ⟨(fun z => by cases z), fun _ => ⟨(fun z => by cases z), fun _ => ?_⟩⟩)
        show _ = _
        rw [← hu]
        rfl
      · rw [List.concat_eq_append] at hu ⊢
        refine tw_and (tw_truO rfl rfl ⟨fun _ => ?_, fun z => absurd z (by simp)⟩)
        refine tw_test (ew_op (ew_ixO rfl rfl (ew_neg (ew_int ⟨_, rfl, _, _, onD x, rfl, rfl, ?_, ew_ref T.k_NOUGHT (fun G => .cons (.int 0) (.cons (.int 1) .nil)) ⟨_, opv_eqD rfl py_pair py_pair shaped_pair shaped_pair, _, rfl, ?_⟩⟩))))
        · rw [List.map_append]
          exact atI_last _ _
        · rw [eqv_pair]
          by_cases hx : x = 0
          · subst hx
            refine ⟨fun _ => ?_, (fun z => by cases z)⟩
            refine sw_drop (ew_pop0O (y := onD 0) rfl ?_ ?_)
            · rw [List.map_append, List.length_append]
              show ((w'.map onD) ++ [onD 0])[(w'.map onD).length + 1 - 1]? = _
              rw [Nat.add_sub_cancel, List.getElem?_append_right (Nat.le_refl _), Nat.sub_self]
              rfl
            · refine ⟨w'.length, by rw [List.length_append]; exact Nat.lt_succ_self _, w', ?_, by rw [← hu, trim_zero], rfl⟩
              rw [List.map_append]
              show [_, some (B.ow (.lst ((w'.map onD ++ [onD 0]).dropLast))), _] = _
              rw [List.dropLast_concat]
          · have e : ((x, (1 : Int)).1 == 0 && ((x, (1 : Int)).2 == 1 && true)) = false := by simp [hx]
            rw [e]
            refine ⟨(fun z => by cases z), fun _ => ?_⟩
            show _ = _
            rw [← hu, trim_snoc hx]
    · rintro ρ rfl
      exact sw_ret (ew_tupO rfl rfl hc)
end Pf

namespace Pf
open PySem L2 Dl Sh
open Evl (Ex)
open Ry
local macro_rules | `(tactic| walk_at "r0") => `(tactic| with_reducible first
  | refine sw_seq ?_
  | refine ew_var rfl ?_
  | refine ew_int ?_
  | refine ew_bl ?_
  | refine ew_non ?_
  | refine ew_str ?_
  | refine aw_cons ?_
  | refine aw_nil ?_
  | refine sw_par ?_
  | refine sw_next ?_
  | refine sw_if ?_
  | refine sw_ret ?_
  | refine tw_not ?_
  | refine tw_and ?_
  | refine tw_or ?_
  | refine tw_test ?_
  | refine tw_B ?_
  | refine tw_tru rfl ?_
  | refine ew_andV ?_
  | refine ew_orV ?_
  | refine ew_notV ?_
  | refine ew_if ?_
  | refine ew_chain ?_
  | refine ew_isN ?_
  | refine ew_tup ?_
  | refine ew_lst ?_
  | refine ew_isiD isN_int rfl ?_
  | refine ew_isiD isN_bool rfl ?_
  | refine ew_isiD isN_tuple rfl ?_
  | refine ew_isiD isN_list rfl ?_
  | refine ew_isiD isN_str rfl ?_
  | refine ew_isi2D isN_list isN_tuple rfl ?_
  | refine ew_isi2D isN_tuple isN_list rfl ?_
  | refine ew_cb ?_
  | refine ew_neg ?_
  | refine ew_op ?_
  | refine ⟨_, opv_int, ?_⟩
  | refine ⟨_, opv_cmp, ?_⟩
  | refine ⟨_, opv_eq, ?_⟩
  | refine ⟨_, opv_ne, ?_⟩
  | refine ⟨_, opv_eqB, ?_⟩
  | refine ⟨_, opv_eqS, ?_⟩
  | refine ⟨_, cbv_abs, ?_⟩
  | refine ⟨_, cbv_max2, ?_⟩
  | refine ⟨_, cbv_min2, ?_⟩
  | refine pw_none ?_
  | refine pw_some ?_
  | refine ⟨_, cbv_int, ?_⟩
  | refine ⟨_, rfl, ?_⟩
  | refine ⟨_, _, rfl, ?_⟩
  | refine ⟨_, _, _, rfl, ?_⟩
  | refine ⟨_, _, _, _, rfl, ?_⟩
  | refine br_t ?_
  | refine br_f ?_
  | refine ⟨dt_int, ?_⟩
  | refine ⟨dt_bl, ?_⟩
  | refine ⟨dt_str, ?_⟩
  | refine ⟨dt_non, ?_⟩
  | refine ⟨dt_tup, ?_⟩
  | refine ⟨dt_lst, ?_⟩
  | refine sw_asg ?_
  | refine sw_drop ?_)
local macro_rules | `(tactic| walk_at "r1") => `(tactic| first
  | ((with_reducible refine ew_tupL ?hK ?_); (case hK => rfl))
  | ((with_reducible refine ew_catT ?hK ?_); (case hK => rfl))
  | ((with_reducible refine ew_repT ?hK ?_); (case hK => rfl))
  | ((with_reducible refine ew_of_eb (eb_listL ?hK ?_)); (case hK => rfl))
  | ((with_reducible refine ew_of_eb (eb_cutL ?hK ?_)); (case hK => rfl))
  | walk_at "r0"
  | ((with_reducible refine ew_of_eb (eb_mapT ?hV ?hK ?_)); (case hK => rfl); (case hV => rfl))
  | ((with_reducible refine ew_of_eb (eb_mapL ?hV ?hK ?_)); (case hK => rfl); (case hV => rfl))
  | ((with_reducible refine ew_of_eb (eb_mapR ?hV ?_)); (case hV => rfl))
  | ((with_reducible refine ew_callP ?hK trivial ?_); (case hK => rfl))
  | ((with_reducible refine ew_callW ?hK trivial ?_); (case hK => rfl))
  | ((with_reducible refine ew_callH ?hK trivial ?_); (case hK => rfl))
  | ((with_reducible refine ew_callR ?hK ?hF ?_); (case hK => rfl); (case hF => assumption))
  | ((with_reducible refine len_ok ?hK ?_); (case hK => rfl))
  | ((with_reducible refine ew_notT ?hK ?_); (case hK => rfl))
  | ((with_reducible refine ew_cutT ?hK ?_); (case hK => rfl))
  | ((with_reducible refine ⟨(?hK : Dt _ _), ?_⟩); (case hK => assumption))
  | ((with_reducible refine sw_unp2 ?hK ?hn ?_); (case hK => rfl); (case hn => rfl)))
local macro_rules | `(tactic| walk_at "side") => `(tactic| first
  | exact Or.inr (by decide)
  | exact Or.inl (by decide)
  | exact ⟨by decide, by decide⟩
  | exact ⟨by decide, by decide, by decide⟩
  | decide
  | (dsimp only; decide)
  | exact mw (by assumption) (by assumption))
local macro_rules | `(tactic| walk_at "r2") => `(tactic| first
  | walk_at "r1"
  | ((with_reducible refine ⟨_, opv_intC ?hC, ?_⟩); (case hC => walk_at "side"))
  | ((with_reducible refine ⟨_, cbv_lenL ?hK, ?_⟩); (case hK => rfl))
  | ((with_reducible refine ⟨_, cbv_allM ?hK, ?_⟩); (case hK => rfl))
  | ((with_reducible refine ⟨_, cbv_anyM ?hK, ?_⟩); (case hK => rfl))
  | ((with_reducible refine ⟨_, cbv_sumM ?hK, ?_⟩); (case hK => rfl))
  | ((with_reducible refine ⟨_, cbv_lenT ?hK, ?_⟩); (case hK => rfl))
  | (with_reducible refine ⟨_, opv_ixT (by with_unfolding_all rfl) (by with_unfolding_all rfl), ?_⟩)
  | refine br_t ?_
  | refine br_f ?_)
local macro_rules | `(tactic| walk_at "rd") => `(tactic| repeat (walk_at "r2"))
local macro_rules | `(tactic| walk_at "rs") => `(tactic| repeat ((fail_if_success (with_reducible refine sw_isif ?_)); walk_at "r2"))
local macro_rules | `(tactic| walk_at "nf") => `(tactic| (try simp only [List.set_cons_zero, List.set_cons_succ, Dl.sets, Dl.asD]))
local macro_rules | `(tactic| walk_at "ru") => `(tactic| repeat ((fail_if_success (with_reducible refine sw_seq ?_)); walk_at "r2"))

theorem bot_trim {f : List Int} (hf : FOk f) : trimR (botF f) = botF f := by
  have hne := hf.ne
  have hu := hf.unit
  cases f with
  | nil => exact absurd rfl hne
  | cons a f =>
    have e : botF (a :: f) = (1 :: f.reverse.map fun x => -x) ++ [-a] := by
      unfold botF
      rw [List.reverse_cons, List.map_append]
      rfl
    rw [e]
    refine trim_snoc fun z => ?_
    have hu : a * a = 1 := hu
    have : a = 0 := by omega
    rw [this] at hu
    cases hu
def fracT (f S : List Int) : List Int := trimR (rowI f.length (conv (botF f) S))
theorem botF_len {f : List Int} : (botF f).length = f.length + 1 := by
  unfold botF
  rw [List.length_cons, List.length_map, List.length_reverse]
theorem botF_big {f : List Int} (hf : FOk f) : Big 20 (botF f) := big_cons (by decide) fun y hy => by
  obtain ⟨x, hx, rfl⟩ := List.mem_map.mp hy
  rw [Int.natAbs_neg]
  exact hf.big x (List.mem_reverse.mp hx)
abbrev c_fraction (A : Ad) : Cn := fun K w ds Ψ Ξ => ∃ f S : List Int, ds = [rowD A f S] ∧ ROk f S ∧ Big 200 S ∧ Ψ (.fz (.tup [pyD (fracT f S), pyD (botF f)]))
theorem l_fraction (A : Ad) : ∀ K w ds Ψ Ξ, (c_fraction A) K w ds Ψ Ξ → ds.length = 1 := fun K w ds Ψ Ξ h => by
  obtain ⟨_, _, rfl, _⟩ := h
  rfl
theorem ok_fraction {P : Program} {w : World} {K : PySem.W.Frag} {mg : Str → Option Value} {base : Heap} {A : Ad} (T : Txt K mg A) : FnOk P w K mg base CX0 4 A.fraction A.fd_fraction ["row"] (SpD K AnyR (c_fraction A)) := by
  refine Fun.ok T.F_fraction sc_fraction (fun vs H Q E h => spd_len (l_fraction A) h) (fun cdv A' outer s H vs Q E hr h => ⟨_, (pss_cons (ps_set (i := 1) sc_fraction.nd rfl (.inl rfl) (pe_call (ok_bottom_row T) (hr.mono (by decide)) (by rfl) T.m_bottom_row T.F_bottom_row.kp (b_bottom_row T) .nil pass0 (pa_cons (pe_fld (pv 0) rfl) pa_nil)))
        (pss_cons (ps_set (i := 2) sc_fraction.nd rfl (.inl rfl) (pe_call (ok_product_below T) (hr.mono (by decide)) (by rfl) T.m_product_below T.F_product_below.kp (b_product_below T) .nil pass0 (pa_cons (pv 1) (pa_cons (pe_fld (pv 0) rfl) (pa_cons (pe_callB call_len_seq (by rfl) T.b_len (by decide +kernel) (pa_cons (pe_fld (pv 0) rfl) pa_nil)) pa_nil)))))
        (pss_one (ps_ret (pe_tup (pa_cons (pe_call (ok_poly_of T) (hr.mono (by decide)) (by rfl) T.m_poly_of T.F_poly_of.kp (b_poly_of T) .nil pass0 (pa_cons (pv 2) pa_nil)) (pa_cons (pe_call (ok_poly_of T) (hr.mono (by decide)) (by rfl) T.m_poly_of T.F_poly_of.kp (b_poly_of T) .nil pass0 (pa_cons (pv 1) pa_nil)) pa_nil))))))), ?_⟩)
  refine body_ok 1 (by decide) (l_fraction A) h (fun Γ ds Ψ Ξ hK hX hF hc ke => ?_)
  subst hK
  obtain ⟨f, S, rfl, hr, bS, hc⟩ := hc
  have h8 := hr.fok.len
  refine sw_seq (sw_asg (ew_callP rfl trivial (aw_cons (ew_fld rfl (ew_var rfl ⟨_, _, _, rfl, T.cl_Row, T.no_Row_factors, rfl, aw_nil ⟨f, rfl, by omega, ?_⟩⟩)))))
  refine sw_seq (sw_asg (ew_callP rfl trivial (aw_cons (ew_var rfl (aw_cons (ew_fld rfl (ew_var rfl ⟨_, _, _, rfl, T.cl_Row, T.no_Row_first, rfl, aw_cons (ew_cb (aw_cons (ew_fld rfl (ew_var rfl ⟨_, _, _, rfl, T.cl_Row, T.no_Row_factors, rfl, aw_nil ⟨_, cbv_lenT rfl, aw_nil ⟨botF f, S, f.length, by rw [List.length_map], by rw [botF_len]; omega, by rw [hr.l]; omega, by omega, big_mono (botF_big hr.fok) (by decide), big_mono bS (by decide), ?_⟩⟩⟩))))⟩)))))))
  refine sw_ret (ew_tup (aw_cons (ew_callP rfl trivial (aw_cons (ew_var rfl (aw_nil ?_))))))
  refine .inl ⟨_, rfl, by rw [row_len]; omega, ?_⟩
  refine aw_cons (ew_callP rfl trivial (aw_cons (ew_var rfl (aw_nil ?_))))
  refine .inl ⟨_, rfl, by rw [botF_len]; omega, ?_⟩
  refine aw_nil ⟨by show 2 ≤ 100000; decide, ?_⟩
  rw [bot_trim hr.fok]
  exact hc
theorem trim_mem {v : List Int} {x : Int} (h : x ∈ trimR v) : x ∈ v := by
  unfold trimR at h
  exact List.mem_reverse.mp ((List.dropWhile_sublist _).mem (List.mem_reverse.mp h))
theorem trim_len {v : List Int} : (trimR v).length ≤ v.length := by
  unfold trimR
  rw [List.length_reverse]
  have := (List.dropWhile_sublist (l := v.reverse) fun x => decide (x = 0)).length_le
  rwa [List.length_reverse] at this
abbrev c_back_fraction (A : Ad) : Cn := fun K w ds Ψ Ξ => ∃ f S : List Int, ds = [rowD A f S] ∧ ROk f S ∧ Big 200 S ∧ Big 200 (bterms f S f.length) ∧ Ψ (.fz (.tup [pyD (trimR (subR (fracT (turnF f) (bterms f S f.length)) (trimR (mulR (trimR [S.headD 0]) (botF (turnF f)))))), pyD (botF (turnF f))]))
theorem l_back_fraction (A : Ad) : ∀ K w ds Ψ Ξ, (c_back_fraction A) K w ds Ψ Ξ → ds.length = 1 := fun K w ds Ψ Ξ h => by
  obtain ⟨_, _, rfl, _⟩ := h
  rfl
theorem ok_back_fraction {P : Program} {w : World} {K : PySem.W.Frag} {mg : Str → Option Value} {base : Heap} {A : Ad} (T : Txt K mg A) : FnOk P w K mg base CX0 10 A.back_fraction A.fd_back_fraction ["row"] (SpD K AnyR (c_back_fraction A)) := by
  refine Fun.ok T.F_back_fraction sc_back_fraction (fun vs H Q E h => spd_len (l_back_fraction A) h) (fun cdv A' outer s H vs Q E hr h => ⟨_, (pss_cons (ps_asg (pe_call (ok_fraction T) (hr.mono (by decide)) (by rfl) T.m_fraction T.F_fraction.kp (b_fraction T) .nil pass0 (pa_cons (pe_meth0 (pv 0) T.cl_Row T.me_Row__turned (ok_Row__turned T) (hr.mono (by decide)) (b_Row__turned T) .nil pass0) pa_nil)) (pg_tup (by rfl) (pgs_cons (pg_name (i := 1) sc_back_fraction.nd rfl (.inl rfl)) (pgs_cons (pg_name (i := 2) sc_back_fraction.nd rfl (.inl rfl)) pgs_nil))))
        (pss_one (ps_ret (pe_tup (pa_cons (pe_call (ok_poly_less T) (hr.mono (by decide)) (by rfl) T.m_poly_less T.F_poly_less.kp (b_poly_less T) .nil pass0 (pa_cons (pv 1) (pa_cons (pe_call (ok_poly_times T) (hr.mono (by decide)) (by rfl) T.m_poly_times T.F_poly_times.kp (b_poly_times T) .nil pass0 (pa_cons (pe_call (ok_poly_of T) (hr.mono (by decide)) (by rfl) T.m_poly_of T.F_poly_of.kp (b_poly_of T) .nil pass0 (pa_cons (pe_tup (pa_cons (pe_ix ix_tup (pe_fld (pv 0) rfl) pe_int (fun _ _ => rfl)) pa_nil)) pa_nil)) (pa_cons (pv 2) pa_nil))) pa_nil))) (pa_cons (pv 2) pa_nil)))))), ?_⟩)
  refine body_ok 1 (by decide) (l_back_fraction A) h (fun Γ ds Ψ Ξ hK hX hF hc ke => ?_)
  subst hK
  obtain ⟨f, S, rfl, hr, bS, bB, hc⟩ := hc
  have h8 := hr.fok.len
  have hr' : ROk (turnF f) (bterms f S f.length) := ⟨turn_ok hr.fok, by rw [bterms_len, turn_len hr.fok], big_mono bB (by decide)⟩
  refine sw_seq (sw_unp2 rfl rfl (ew_callP rfl trivial (aw_cons (ew_meth rfl trivial (ew_var rfl ⟨_, rfl, rfl, aw_nil ⟨f, S, rfl, hr, aw_nil ⟨turnF f, _, rfl, hr', bB, _, _, rfl, ?_⟩⟩⟩)))))
  walk_at "rd"
  have hS : S ≠ [] := fun e => by
    have h1 := hr.l
    have h2 := List.length_pos_iff.mpr hr.fok.ne
    rw [e] at h1
    simp at h1
    omega
  refine ew_fld rfl (ew_var rfl ⟨_, _, _, rfl, T.cl_Row, T.no_Row_first, rfl, ?_⟩)
  walk_at "rd"
  refine ⟨_, opv_ixT rfl (at_head hS), ?_⟩
  walk_at "rd"
  refine .inl ⟨[S.headD 0], rfl, by show 1 ≤ 1000; decide, ?_⟩
  walk_at "rd"
  have hb1 : Big 100000 (trimR [S.headD 0]) := big_sub (v := [S.headD 0]) (big_cons (big_mono (n := 200) (m := 100000) (v := [S.headD 0]) (big_cons (big_headD bS) big_nil) (by decide) _ List.mem_cons_self) big_nil) fun x hx => trim_mem hx
  have hl1 : (trimR [S.headD 0]).length ≤ 1 := trim_len
  have hl2 := mulR_len (v := trimR [S.headD 0]) (u := botF (turnF f))
  have hl3 : (botF (turnF f)).length = f.length + 1 := by rw [botF_len, turn_len hr.fok]
  refine ⟨by omega, by omega, hb1, big_mono (botF_big (turn_ok hr.fok)) (by decide), ?_⟩
  walk_at "rd"
  have hl4 := trim_len (v := mulR (trimR [S.headD 0]) (botF (turnF f)))
  have hl5 : (fracT (turnF f) (bterms f S f.length)).length ≤ f.length := by
    have := trim_len (v := rowI (turnF f).length (conv (botF (turnF f)) (bterms f S f.length)))
    rw [row_len] at this
    have h2 := turn_len hr.fok
    unfold fracT
    omega
  refine ⟨by omega, by omega, ?_⟩
  walk_at "rd"
  exact hc
end Pf

namespace Pf
open PySem L2 Dl Sh
open Evl (Ex)
open Ry
local macro_rules | `(tactic| walk_at "r0") => `(tactic| with_reducible first
  | refine sw_seq ?_
  | refine ew_var rfl ?_
  | refine ew_int ?_
  | refine ew_bl ?_
  | refine ew_non ?_
  | refine ew_str ?_
  | refine aw_cons ?_
  | refine aw_nil ?_
  | refine sw_par ?_
  | refine sw_next ?_
  | refine sw_if ?_
  | refine sw_ret ?_
  | refine tw_not ?_
  | refine tw_and ?_
  | refine tw_or ?_
  | refine tw_test ?_
  | refine tw_B ?_
  | refine tw_tru rfl ?_
  | refine ew_andV ?_
  | refine ew_orV ?_
  | refine ew_notV ?_
  | refine ew_if ?_
  | refine ew_chain ?_
  | refine ew_isN ?_
  | refine ew_tup ?_
  | refine ew_lst ?_
  | refine ew_isiD isN_int rfl ?_
  | refine ew_isiD isN_bool rfl ?_
  | refine ew_isiD isN_tuple rfl ?_
  | refine ew_isiD isN_list rfl ?_
  | refine ew_isiD isN_str rfl ?_
  | refine ew_isi2D isN_list isN_tuple rfl ?_
  | refine ew_isi2D isN_tuple isN_list rfl ?_
  | refine ew_cb ?_
  | refine ew_neg ?_
  | refine ew_op ?_
  | refine ⟨_, opv_int, ?_⟩
  | refine ⟨_, opv_cmp, ?_⟩
  | refine ⟨_, opv_eq, ?_⟩
  | refine ⟨_, opv_ne, ?_⟩
  | refine ⟨_, opv_eqB, ?_⟩
  | refine ⟨_, opv_eqS, ?_⟩
  | refine ⟨_, cbv_abs, ?_⟩
  | refine ⟨_, cbv_max2, ?_⟩
  | refine ⟨_, cbv_min2, ?_⟩
  | refine pw_none ?_
  | refine pw_some ?_
  | refine ⟨_, cbv_int, ?_⟩
  | refine ⟨_, rfl, ?_⟩
  | refine ⟨_, _, rfl, ?_⟩
  | refine ⟨_, _, _, rfl, ?_⟩
  | refine ⟨_, _, _, _, rfl, ?_⟩
  | refine br_t ?_
  | refine br_f ?_
  | refine ⟨dt_int, ?_⟩
  | refine ⟨dt_bl, ?_⟩
  | refine ⟨dt_str, ?_⟩
  | refine ⟨dt_non, ?_⟩
  | refine ⟨dt_tup, ?_⟩
  | refine ⟨dt_lst, ?_⟩
  | refine sw_asg ?_
  | refine sw_drop ?_)
local macro_rules | `(tactic| walk_at "r1") => `(tactic| first
  | ((with_reducible refine ew_tupL ?hK ?_); (case hK => rfl))
  | ((with_reducible refine ew_catT ?hK ?_); (case hK => rfl))
  | ((with_reducible refine ew_repT ?hK ?_); (case hK => rfl))
  | ((with_reducible refine ew_of_eb (eb_listL ?hK ?_)); (case hK => rfl))
  | ((with_reducible refine ew_of_eb (eb_cutL ?hK ?_)); (case hK => rfl))
  | walk_at "r0"
  | ((with_reducible refine ew_of_eb (eb_mapT ?hV ?hK ?_)); (case hK => rfl); (case hV => rfl))
  | ((with_reducible refine ew_of_eb (eb_mapL ?hV ?hK ?_)); (case hK => rfl); (case hV => rfl))
  | ((with_reducible refine ew_of_eb (eb_mapR ?hV ?_)); (case hV => rfl))
  | ((with_reducible refine ew_callP ?hK trivial ?_); (case hK => rfl))
  | ((with_reducible refine ew_callW ?hK trivial ?_); (case hK => rfl))
  | ((with_reducible refine ew_callH ?hK trivial ?_); (case hK => rfl))
  | ((with_reducible refine ew_callR ?hK ?hF ?_); (case hK => rfl); (case hF => assumption))
  | ((with_reducible refine len_ok ?hK ?_); (case hK => rfl))
  | ((with_reducible refine ew_notT ?hK ?_); (case hK => rfl))
  | ((with_reducible refine ew_cutT ?hK ?_); (case hK => rfl))
  | ((with_reducible refine ⟨(?hK : Dt _ _), ?_⟩); (case hK => assumption))
  | ((with_reducible refine sw_unp2 ?hK ?hn ?_); (case hK => rfl); (case hn => rfl)))
local macro_rules | `(tactic| walk_at "side") => `(tactic| first
  | exact Or.inr (by decide)
  | exact Or.inl (by decide)
  | exact ⟨by decide, by decide⟩
  | exact ⟨by decide, by decide, by decide⟩
  | decide
  | (dsimp only; decide)
  | exact mw (by assumption) (by assumption))
local macro_rules | `(tactic| walk_at "r2") => `(tactic| first
  | walk_at "r1"
  | ((with_reducible refine ⟨_, opv_intC ?hC, ?_⟩); (case hC => walk_at "side"))
  | ((with_reducible refine ⟨_, cbv_lenL ?hK, ?_⟩); (case hK => rfl))
  | ((with_reducible refine ⟨_, cbv_allM ?hK, ?_⟩); (case hK => rfl))
  | ((with_reducible refine ⟨_, cbv_anyM ?hK, ?_⟩); (case hK => rfl))
  | ((with_reducible refine ⟨_, cbv_sumM ?hK, ?_⟩); (case hK => rfl))
  | ((with_reducible refine ⟨_, cbv_lenT ?hK, ?_⟩); (case hK => rfl))
  | (with_reducible refine ⟨_, opv_ixT (by with_unfolding_all rfl) (by with_unfolding_all rfl), ?_⟩)
  | refine br_t ?_
  | refine br_f ?_)
local macro_rules | `(tactic| walk_at "rd") => `(tactic| repeat (walk_at "r2"))
local macro_rules | `(tactic| walk_at "rs") => `(tactic| repeat ((fail_if_success (with_reducible refine sw_isif ?_)); walk_at "r2"))
local macro_rules | `(tactic| walk_at "nf") => `(tactic| (try simp only [List.set_cons_zero, List.set_cons_succ, Dl.sets, Dl.asD]))
local macro_rules | `(tactic| walk_at "ru") => `(tactic| repeat ((fail_if_success (with_reducible refine sw_seq ?_)); walk_at "r2"))

theorem ok__law_open {P : Program} {w : World} {K : PySem.W.Frag} {mg : Str → Option Value} {base : Heap} {A : Ad} (T : Txt K mg A) : FnOk P w K mg base CX0 1 A._law_open A.fd__law_open ["script"] (spSrc K) := by
  refine T.F__law_open.ok sc__law_open (fun vs H Q E h => by obtain ⟨a, ns, rfl, _⟩ := h; rfl) (fun cdv A' outer s H vs Q E hr h => ⟨_,
(pss_cons (ps_setLc (i := 1) (own := [("cell", 2)]) (by rfl) sc__law_open.nd rfl rfl (sw_true rfl rfl rfl (by decide +kernel)) (pi_list (pe_slice sl_list (pv 0) po_none (po_some pe_int))) (blkOk_by (own := [("cell", 2)]) (N := ["script", "small", "cell", "great"]) (sc := defScope s__law_open) (by decide +kernel)) (fun _ _ _ _ _ => (pg_name (i := 2) sc__law_open.nd rfl (.inl rfl))) (fun _ _ _ _ _ => pts_nil) (fun _ _ _ _ _ => (pe_op op_mod (pe_callTy call_int1 (by rfl) T.b_int (by decide +kernel) (pa_cons (pv 2) pa_nil)) pe_int)))
        (pss_cons (ps_setLc (i := 3) (own := [("cell", 2)]) (by rfl) sc__law_open.nd rfl rfl (sw_true rfl rfl rfl (by decide +kernel)) (pi_list (pe_slice sl_list (pv 0) po_none (po_some pe_int))) (blkOk_by (own := [("cell", 2)]) (N := ["script", "small", "cell", "great"]) (sc := defScope s__law_open) (by decide +kernel)) (fun _ _ _ _ _ => (pg_name (i := 2) sc__law_open.nd rfl (.inl rfl))) (fun _ _ _ _ _ => (pts_one (pt_cmpR op_ge (pe_callB call_abs (by rfl) T.b_abs (by decide +kernel) (pa_cons (pe_callTy call_int1 (by rfl) T.b_int (by decide +kernel) (pa_cons (pv 2) pa_nil)) pa_nil)) (pe_op op_pow pe_int pe_int) (nomark _)))) (fun _ _ _ _ _ => (pe_callB call_abs (by rfl) T.b_abs (by decide +kernel) (pa_cons (pe_callTy call_int1 (by rfl) T.b_int (by decide +kernel) (pa_cons (pv 2) pa_nil)) pa_nil))))
        (pss_one (ps_ret (pe_lst (pa_cons (pv 1) (pa_cons (pv 3) (pa_cons pe_int (pa_cons pe_int pa_nil)))))))))
    , ?_⟩)
  obtain ⟨a, ns, rfl, hS, hl, hq⟩ := h
  have k0 : Ok (⟨K, H, H, Rsc.no, []⟩ : Dl.Ctx) H H (L2.start ["script", "small", "cell", "great"] [.ref a]) [some (.fz (.lst (ns.map D.int))), none, none, none] := by
    refine ⟨Ex.refl H, Ex.refl H, fun x h _ => h, fun x o _ h => h, fun x h => h, trivial, fun x e => e.elim, rfl, fun i b h => ?_, fun i j x ⟨_, es, q⟩ _ => ?_, fun p hp => absurd hp (by simp), fun i x _ p hp => absurd hp (by simp)⟩
    · match i, h with
      | 0, h =>
        cases h
        exact ⟨_, rfl, Rep.lst hS (RepL.ofInts ns)⟩
      | 1, h => cases h
      | 2, h => cases h
      | 3, h => cases h
    · match i, q with
      | 0, q => cases q
      | 1, q => cases q
      | 2, q => cases q
      | 3, q => cases q
  have ecut : cutD (ns.map D.int) none (some 63) = ns.map D.int := by
    rw [cut_head (k := 63) (by decide)]
    show (ns.take 63).map D.int = _
    rw [List.take_of_length_le hl]
  refine sw_run (M := fun ρ => ∃ small : List Int, (∀ x ∈ small, 0 ≤ x ∧ x < 998244353) ∧ small.length ≤ 64 ∧ ρ = [some (.fz (.lst (ns.map D.int))), some (.ow (.lst (small.map D.int))), none, none]) (sw_asgB (eb_mapL rfl rfl (ew_of_eb (eb_cutL rfl (ew_var rfl (pw_none (pw_some (ew_int ⟨_, rfl, _, rfl, ?_⟩)))))))) k0 ?_
  · refine ⟨_, rfl, (fun es z => by cases z), by rw [ecut, List.length_map]; omega, fun x => (match x with | .int y => .int (y % 998244353) | _ => .non), fun x hx c => ?_, ?_⟩
    · rw [ecut] at hx
      obtain ⟨y, hy, rfl⟩ := List.mem_map.mp hx
      walk_at "rd"
      exact ⟨rfl, rfl⟩
    · rw [ecut]
      refine ⟨ns.map fun y => y % 998244353, fun x hx => ?_, by rw [List.length_map]; omega, ?_⟩
      · obtain ⟨y, _, rfl⟩ := List.mem_map.mp hx
        exact ⟨Int.emod_nonneg _ (by decide), Int.emod_lt_of_pos _ (by decide)⟩
      · rw [List.map_map, List.map_map]
        rfl
  rintro ρ1 σ1 G1 H1 e1 k1 ⟨small, s1, s2, rfl⟩
  refine sw_run (M := fun ρ => ∃ gs : List Int, (∀ x ∈ gs, 0 ≤ x) ∧ gs.length ≤ 64 ∧ ρ = [some (.fz (.lst (ns.map D.int))), some (.ow (.lst (small.map D.int))), none, some (.ow (.lst (gs.map D.int)))]) (sw_asgB (eb_lcL rfl (ew_of_eb (eb_cutL rfl (ew_var rfl (pw_none (pw_some (ew_int ⟨_, rfl, _, rfl, ?_⟩)))))))) k1 ?_
  · refine ⟨_, rfl, gw_name (by decide), fun j hj es => ?_, by rw [ecut, List.length_map]; omega, fun i acc => ∃ gs : List Int, acc = gs.map D.int ∧ (∀ x ∈ gs, 0 ≤ x) ∧ gs.length ≤ i, ⟨[], rfl, fun x h => absurd h (by simp), Nat.le_refl _⟩, ?_, ?_⟩
    · rw [List.mem_singleton.mp hj]
      intro z
      cases z
    · rintro i x acc c hi ⟨gs, rfl, h1, h2⟩
      rw [ecut] at hi
      obtain ⟨y, hy, rfl⟩ := item_mp hi
      refine ⟨_, gd_name, rfl, ?_⟩
      walk_at "rd"
      refine ⟨rfl, fun h3 => ?_, fun h3 => ⟨gs, rfl, h1, by omega⟩⟩
      walk_at "rd"
      refine ⟨rfl, gs ++ [if y < 0 then -y else y], by rw [List.map_append]; rfl, fun x hx => ?_, by rw [List.length_append]; show gs.length + 1 ≤ _; omega⟩
      rcases List.mem_append.mp hx with hx | hx
      · exact h1 x hx
      · rw [List.mem_singleton.mp hx]
        split <;> omega
    · rintro acc ⟨gs, rfl, h1, h2⟩
      rw [ecut, List.length_map] at h2
      exact ⟨gs, h1, by omega, rfl⟩
  · rintro ρ2 σ2 G2 H2 e2 k2 ⟨gs, g1, g2, rfl⟩
    obtain ⟨z, ys, p1, p2, p3⟩ := k2.lst (l := 1) rfl
    obtain ⟨g, xs, q1, q2, q3⟩ := k2.lst (l := 3) rfl
    have og : own σ2 [some (.fz (.lst (ns.map D.int))), some (.ow (.lst (small.map D.int))), none, some (.ow (.lst (gs.map D.int)))] 3 g := ⟨q1, _, rfl⟩
    have oz : own σ2 [some (.fz (.lst (ns.map D.int))), some (.ow (.lst (small.map D.int))), none, some (.ow (.lst (gs.map D.int)))] 1 z := ⟨p1, _, rfl⟩
    obtain ⟨_, _, _, _, hg⟩ := own_in k2 og
    obtain ⟨_, _, _, _, hz⟩ := own_in k2 oz
    have gz : g ≠ z := fun e => by
      subst e
      have := k2.dj 1 3 g oz og
      cases this
    have ex := q3.ints
    have ey := p3.ints
    subst ex ey
    refine ⟨_, p1, _, q1, ?_⟩
    refine ⟨by show 4 ≤ sizeLine; decide, fun p hp => ?_⟩
    have hpn : H p = none := by
      cases e : H p with
      | none => rfl
      | some o =>
        have := k2.fr p o (fun z => z) e
        rw [hp] at this
        cases this
    have pg : p ≠ g := fun e => by
      rw [e, q2] at hp
      cases hp
    have pz : p ≠ z := fun e => by
      rw [e, p2] at hp
      cases hp
    refine hq p g z _ pg pz gz hpn hg hz (fun x o e => ?_) ⟨gs, small, 0, 0, by rw [upd_same], by rw [upd_ne (Ne.symm pg)]; exact q2, by rw [upd_ne (Ne.symm pz)]; exact p2, g1, s1, g2, s2, by omega, by omega⟩
    rw [upd_ne fun e2 => by rw [e2, hpn] at e; cases e]
    exact k2.fr x o (fun z => z) e
end Pf

namespace Pf
open PySem L2 Dl Sh
open Evl (Ex)
open Ry
local macro_rules | `(tactic| walk_at "r0") => `(tactic| with_reducible first
  | refine sw_seq ?_
  | refine ew_var rfl ?_
  | refine ew_int ?_
  | refine ew_bl ?_
  | refine ew_non ?_
  | refine ew_str ?_
  | refine aw_cons ?_
  | refine aw_nil ?_
  | refine sw_par ?_
  | refine sw_next ?_
  | refine sw_if ?_
  | refine sw_ret ?_
  | refine tw_not ?_
  | refine tw_and ?_
  | refine tw_or ?_
  | refine tw_test ?_
  | refine tw_B ?_
  | refine tw_tru rfl ?_
  | refine ew_andV ?_
  | refine ew_orV ?_
  | refine ew_notV ?_
  | refine ew_if ?_
  | refine ew_chain ?_
  | refine ew_isN ?_
  | refine ew_tup ?_
  | refine ew_lst ?_
  | refine ew_isiD isN_int rfl ?_
  | refine ew_isiD isN_bool rfl ?_
  | refine ew_isiD isN_tuple rfl ?_
  | refine ew_isiD isN_list rfl ?_
  | refine ew_isiD isN_str rfl ?_
  | refine ew_isi2D isN_list isN_tuple rfl ?_
  | refine ew_isi2D isN_tuple isN_list rfl ?_
  | refine ew_cb ?_
  | refine ew_neg ?_
  | refine ew_op ?_
  | refine ⟨_, opv_int, ?_⟩
  | refine ⟨_, opv_cmp, ?_⟩
  | refine ⟨_, opv_eq, ?_⟩
  | refine ⟨_, opv_ne, ?_⟩
  | refine ⟨_, opv_eqB, ?_⟩
  | refine ⟨_, opv_eqS, ?_⟩
  | refine ⟨_, cbv_abs, ?_⟩
  | refine ⟨_, cbv_max2, ?_⟩
  | refine ⟨_, cbv_min2, ?_⟩
  | refine pw_none ?_
  | refine pw_some ?_
  | refine ⟨_, cbv_int, ?_⟩
  | refine ⟨_, rfl, ?_⟩
  | refine ⟨_, _, rfl, ?_⟩
  | refine ⟨_, _, _, rfl, ?_⟩
  | refine ⟨_, _, _, _, rfl, ?_⟩
  | refine br_t ?_
  | refine br_f ?_
  | refine ⟨dt_int, ?_⟩
  | refine ⟨dt_bl, ?_⟩
  | refine ⟨dt_str, ?_⟩
  | refine ⟨dt_non, ?_⟩
  | refine ⟨dt_tup, ?_⟩
  | refine ⟨dt_lst, ?_⟩
  | refine sw_asg ?_
  | refine sw_drop ?_)
local macro_rules | `(tactic| walk_at "r1") => `(tactic| first
  | ((with_reducible refine ew_tupL ?hK ?_); (case hK => rfl))
  | ((with_reducible refine ew_catT ?hK ?_); (case hK => rfl))
  | ((with_reducible refine ew_repT ?hK ?_); (case hK => rfl))
  | ((with_reducible refine ew_of_eb (eb_listL ?hK ?_)); (case hK => rfl))
  | ((with_reducible refine ew_of_eb (eb_cutL ?hK ?_)); (case hK => rfl))
  | walk_at "r0"
  | ((with_reducible refine ew_of_eb (eb_mapT ?hV ?hK ?_)); (case hK => rfl); (case hV => rfl))
  | ((with_reducible refine ew_of_eb (eb_mapL ?hV ?hK ?_)); (case hK => rfl); (case hV => rfl))
  | ((with_reducible refine ew_of_eb (eb_mapR ?hV ?_)); (case hV => rfl))
  | ((with_reducible refine ew_callP ?hK trivial ?_); (case hK => rfl))
  | ((with_reducible refine ew_callW ?hK trivial ?_); (case hK => rfl))
  | ((with_reducible refine ew_callH ?hK trivial ?_); (case hK => rfl))
  | ((with_reducible refine ew_callR ?hK ?hF ?_); (case hK => rfl); (case hF => assumption))
  | ((with_reducible refine len_ok ?hK ?_); (case hK => rfl))
  | ((with_reducible refine ew_notT ?hK ?_); (case hK => rfl))
  | ((with_reducible refine ew_cutT ?hK ?_); (case hK => rfl))
  | ((with_reducible refine ⟨(?hK : Dt _ _), ?_⟩); (case hK => assumption))
  | ((with_reducible refine sw_unp2 ?hK ?hn ?_); (case hK => rfl); (case hn => rfl)))
local macro_rules | `(tactic| walk_at "side") => `(tactic| first
  | exact Or.inr (by decide)
  | exact Or.inl (by decide)
  | exact ⟨by decide, by decide⟩
  | exact ⟨by decide, by decide, by decide⟩
  | decide
  | (dsimp only; decide)
  | exact mw (by assumption) (by assumption))
local macro_rules | `(tactic| walk_at "r2") => `(tactic| first
  | walk_at "r1"
  | ((with_reducible refine ⟨_, opv_intC ?hC, ?_⟩); (case hC => walk_at "side"))
  | ((with_reducible refine ⟨_, cbv_lenL ?hK, ?_⟩); (case hK => rfl))
  | ((with_reducible refine ⟨_, cbv_allM ?hK, ?_⟩); (case hK => rfl))
  | ((with_reducible refine ⟨_, cbv_anyM ?hK, ?_⟩); (case hK => rfl))
  | ((with_reducible refine ⟨_, cbv_sumM ?hK, ?_⟩); (case hK => rfl))
  | ((with_reducible refine ⟨_, cbv_lenT ?hK, ?_⟩); (case hK => rfl))
  | (with_reducible refine ⟨_, opv_ixT (by with_unfolding_all rfl) (by with_unfolding_all rfl), ?_⟩)
  | refine br_t ?_
  | refine br_f ?_)
local macro_rules | `(tactic| walk_at "rd") => `(tactic| repeat (walk_at "r2"))
local macro_rules | `(tactic| walk_at "rs") => `(tactic| repeat ((fail_if_success (with_reducible refine sw_isif ?_)); walk_at "r2"))
local macro_rules | `(tactic| walk_at "nf") => `(tactic| (try simp only [List.set_cons_zero, List.set_cons_succ, Dl.sets, Dl.asD]))
local macro_rules | `(tactic| walk_at "ru") => `(tactic| repeat ((fail_if_success (with_reducible refine sw_seq ?_)); walk_at "r2"))

abbrev c__law_draw : Cn := fun K w ds Ψ Ξ => ∃ many : Int, ds = [.ptr w, .int many] ∧ 1 ≤ many ∧ many < 1073741824 ∧ ∀ d : Int, 0 ≤ d → d < many → Ψ (.fz (.int d))
theorem l__law_draw : ∀ K w ds Ψ Ξ, c__law_draw K w ds Ψ Ξ → ds.length = 2 := fun K w ds Ψ Ξ h => by
  obtain ⟨_, rfl, _⟩ := h
  rfl
theorem if_of {c A B : Prop} [Decidable c] {b : Bool} (e : decide c = b) (h1 : c → A) (h2 : ¬ c → B) : if b = true then A else B := by
  by_cases h : c
  · rw [← e, decide_eq_true h, if_pos rfl]
    exact h1 h
  · rw [← e, decide_eq_false h, if_neg Bool.false_ne_true]
    exact h2 h
theorem seqN {k n : Nat} (h : k < n) : seqIndex? (k : Int) n = some k := by
  unfold seqIndex?
  have e : ¬ ((k : Int) < 0) := by omega
  simp only [if_neg e]
  rw [decide_eq_true (show (0 : Int) ≤ (k : Int) by omega), decide_eq_true (show (k : Int) < (n : Int) by omega)]
  rfl
theorem seq0 {n : Nat} (h : 0 < n) : seqIndex? 0 n = some 0 := seqN (k := 0) h
theorem src_aft {b g s : Addr} {G H H' : Hp} (hgn : ∀ a, (srcR b g s).F a → G a = none) (hG : Ex G H) (hI : (srcR b g s).I H') (he : ∀ x, x ≠ b → x ≠ g → x ≠ s → H' x = H x) : Aft (srcR b g s) G H G H' where
  gg := Ex.refl G
  gh := fun x o h => by
    have n : ¬ (srcR b g s).F x := fun e => by rw [hgn x e] at h; cases h
    rw [he x (fun e => n (.inl e)) (fun e => n (.inr (.inl e))) (fun e => n (.inr (.inr e)))]
    exact hG x o h
  res := hI
  rg := hgn
  nw := fun x h _ => h
  fr := fun x o n h => by
    rw [he x (fun e => n (.inl e)) (fun e => n (.inr (.inl e))) (fun e => n (.inr (.inr e)))]
    exact h
  dm := fun x h => by
    by_cases c : (srcR b g s).F x
    · exact (srcR b g s).dom H' x hI c
    · rw [he x (fun e => c (.inl e)) (fun e => c (.inr (.inl e))) (fun e => c (.inr (.inr e)))]
      exact h
theorem seq_gen {ts tu : TS} {D : Ends} {σ : St} {H : Hp} (M : St → Hp → Prop) (h : ∀ N : St → Hp → Prop, (∀ σ' H', M σ' H' → N σ' H') → ts { D with nx := N } σ H) (hk : ∀ σ' H', M σ' H' → tu D σ' H') : tSeq ts tu D σ H := h (tu D) hk
/-- what stands in the source -/
structure SrcAt (b g z : Addr) (H0 H : Hp) (gs small : List Int) (left at_ : Int) : Prop where
  hb : H b = some (.lst [.ref z, .ref g, .int left, .int at_])
  hg : H g = some (.lst (gs.map V.int))
  hz : H z = some (.lst (small.map V.int))
  p1 : ∀ x ∈ gs, 0 ≤ x
  p2 : ∀ x ∈ small, 0 ≤ x ∧ x < 998244353
  p3 : gs.length ≤ 64
  p4 : small.length ≤ 64
  p5 : 0 ≤ left
  p6 : 0 ≤ at_
  ho : ∀ x, x ≠ b → x ≠ g → x ≠ z → H x = H0 x
theorem SrcAt.I {b g z : Addr} {H0 H : Hp} {gs small : List Int} {left at_ : Int} (S : SrcAt b g z H0 H gs small left at_) : (srcR b g z).I H := ⟨gs, small, left, at_, S.hb, S.hg, S.hz, S.p1, S.p2, S.p3, S.p4, S.p5, S.p6⟩
theorem ok__law_draw {P : Program} {w : World} {K : PySem.W.Frag} {mg : Str → Option Value} {base : Heap} {A : Ad} (T : Txt K mg A) : FnOk P w K mg base CX0 1 A._law_draw A.fd__law_draw ["source", "many"] (SpD K IsSrc c__law_draw) := by
  refine T.F__law_draw.ok sc__law_draw (fun vs H Q E h => spd_len l__law_draw h) (fun cdv A' outer s H vs Q E hr h => ⟨_,
(pss_cons (ps_asg (pe_op op_add (pe_ix ix_list (pv 0) pe_int (fun _ _ => rfl)) pe_int) (pg_sub (pv 0) pe_int set_list))
        (pss_cons (ps_if (PW.pt (pw_and (pt_cmpR op_eq (pe_ix ix_list (pv 0) pe_int (fun _ _ => rfl)) pe_int (nomark _)) (pw_and1 (pt_cmpR op_gt (pe_callB call_len_seq (by rfl) T.b_len (by decide +kernel) (pa_cons (pe_ix ix_list (pv 0) pe_int (fun _ _ => rfl)) pa_nil)) pe_int (nomark _))))) (pss_cons (ps_set (i := 2) sc__law_draw.nd rfl (.inl rfl) (pe_ix ix_list (pv 0) pe_int (fun _ _ => rfl)))
        (pss_one (ps_asg (pe_bm PySem.F.plainAttrs_list PySem.F.slot_list_pop PySem.F.type_list_pop mt_popAt (pv 2) (pa_cons pe_int pa_nil)) (pg_sub (pv 0) pe_int set_list)))) pss_nil)
        (pss_cons (ps_if (pt_cmpR op_gt (pe_ix ix_list (pv 0) pe_int (fun _ _ => rfl)) pe_int (nomark _)) (pss_cons (ps_set (i := 3) sc__law_draw.nd rfl (.inl rfl) (pe_op op_mod (pe_callTy call_int1 (by rfl) T.b_int (by decide +kernel) (pa_cons (pe_ix ix_list (pv 0) pe_int (fun _ _ => rfl)) pa_nil)) (pv 1)))
        (pss_cons (ps_asg (pe_op op_fdiv (pe_ix ix_list (pv 0) pe_int (fun _ _ => rfl)) (pv 1)) (pg_sub (pv 0) pe_int set_list))
        (pss_one (ps_ret (pv 3))))) pss_nil)
        (pss_cons (ps_set (i := 4) sc__law_draw.nd rfl (.inl rfl) (pe_ix ix_list (pv 0) pe_int (fun _ _ => rfl)))
        (pss_cons (ps_set (i := 5) sc__law_draw.nd rfl (.inl rfl) (pe_ix ix_list (pv 0) pe_int (fun _ _ => rfl)))
        (pss_cons (ps_set (i := 6) sc__law_draw.nd rfl (.inl rfl) pe_int)
        (pss_cons (ps_if (pt_cmpR op_gt (pe_callB call_len_seq (by rfl) T.b_len (by decide +kernel) (pa_cons (pv 4) pa_nil)) pe_int (nomark _)) (pss_one (ps_set (i := 6) sc__law_draw.nd rfl (.inl rfl) (pe_ix ix_list (pv 4) (pe_op op_mod (pe_callTy call_int1 (by rfl) T.b_int (by decide +kernel) (pa_cons (pv 5) pa_nil)) (pe_callB call_len_seq (by rfl) T.b_len (by decide +kernel) (pa_cons (pv 4) pa_nil))) (fun _ _ => rfl)))) pss_nil)
        (pss_cons (ps_set (i := 7) sc__law_draw.nd rfl (.inl rfl) (pe_op op_mod (pe_callTy call_int1 (by rfl) T.b_int (by decide +kernel) (pa_cons (pe_op op_add (pe_op op_add (pe_op op_mul (pv 6) pe_int) (pe_op op_mul (pv 5) pe_int)) pe_int) pa_nil)) pe_int))
        (pss_cons (ps_set (i := 7) sc__law_draw.nd rfl (.inl rfl) (pe_op op_mod (pe_callTy call_int1 (by rfl) T.b_int (by decide +kernel) (pa_cons (pe_op op_add (pe_op op_add (pe_op op_mul (pv 7) (pv 7)) (pe_op op_mul (pv 6) (pv 5))) (pe_op op_mul (pv 5) pe_int)) pa_nil)) pe_int))
        (pss_cons (ps_set (i := 7) sc__law_draw.nd rfl (.inl rfl) (pe_op op_mod (pe_callTy call_int1 (by rfl) T.b_int (by decide +kernel) (pa_cons (pe_op op_add (pe_op op_add (pe_op op_mul (pe_op op_mul (pv 7) (pv 7)) pe_int) (pv 7)) (pv 6)) pa_nil)) pe_int))
        (pss_one (ps_ret (pe_op op_mod (pe_callTy call_int1 (by rfl) T.b_int (by decide +kernel) (pa_cons (pe_op op_fdiv (pv 7) pe_int) pa_nil)) (pv 1))))))))))))))
    , ?_⟩)
  obtain ⟨R, G, ds, Ψ, Ξ, ⟨b, g, z, d1, d2, d3, rfl⟩, hI, hgn, hG, rl, ⟨many, rfl, m1, m2, hc⟩, kq, ke⟩ := h
  obtain ⟨gs, small, left, at_, hb, hg, hz, p1, p2, p3, p4, p5, p6⟩ := id hI
  cases rl with
  | cons r1 rl => cases rl with
    | cons r2 rl =>
      cases rl
      cases r1
      cases r2
      have fin : ∀ {H' : Hp} {gs small : List Int} {left at_ : Int} (d : Int), SrcAt b g z H H' gs small left at_ → 0 ≤ d → d < many → Q (.int d) H' := fun d S h0 h1 => kq (.fz (.int d)) _ G _ (src_aft hgn hG S.I S.ho) (Rep.int _) (hc _ h0 h1)
      refine ⟨_, rfl, b, _, _, _, rfl, rfl, SqL.of hb, rfl, _, _, rfl, rfl, _, rfl, b, _, _, _, rfl, rfl, hb, rfl, ?_⟩
      have e1 : upd H b (HO.lst ([V.ref z, V.ref g, V.int left, V.int at_].set (Int.toNat 3) (.int (at_ + 1)))) = upd H b (.lst [.ref z, .ref g, .int left, .int (at_ + 1)]) := rfl
      rw [e1]
      have S1 : SrcAt b g z H (upd H b (.lst [.ref z, .ref g, .int left, .int (at_ + 1)])) gs small left (at_ + 1) := ⟨by rw [upd_same], by rw [upd_ne (Ne.symm d1)]; exact hg, by rw [upd_ne (Ne.symm d2)]; exact hz, p1, p2, p3, p4, p5, by omega, fun x n _ _ => by rw [upd_ne n]⟩
      generalize upd H b (.lst [.ref z, .ref g, .int left, .int (at_ + 1)]) = H1 at S1 ⊢
      generalize at_ + 1 = t1 at S1
      dsimp only
      refine seq_gen (ts := tIfS _ _ _) (fun σ' H' => ∃ (gs small : List Int) (left at_ : Int) (c2 : Option V), σ' = [some (.ref b), some (.int many), c2, none, none, none, none, none] ∧ SrcAt b g z H H' gs small left at_) (fun N hN => ?_) ?_
      · refine ⟨_, rfl, b, _, _, _, rfl, rfl, SqL.of S1.hb, rfl, rfl, _, rfl, ?_⟩
        refine if_of (c := V.int left = V.int 0) rfl (fun hl => ?_) fun hl => ?_
        · refine ⟨_, rfl, b, _, _, _, rfl, rfl, SqL.of S1.hb, rfl, g, _, rfl, .inl (SqL.of S1.hg), _, _, rfl, rfl, _, rfl, ?_⟩
          refine if_of (c := (0 : Int) < ((gs.map V.int).length : Int)) rfl (fun hp => ?_) fun hp => ?_
          · obtain ⟨x0, r, rfl⟩ : ∃ x0 r, gs = x0 :: r := by
              cases gs with
              | nil => exact absurd hp (by decide)
              | cons x0 r => exact ⟨x0, r, rfl⟩
            refine ⟨_, rfl, b, _, _, _, rfl, rfl, SqL.of S1.hb, rfl, ?_⟩
            refine ⟨_, rfl, .inl ⟨rfl, _, SqL.of S1.hg⟩, g, _, 0, 0, _, rfl, rfl, S1.hg, by decide, by decide, seq0 (by rw [List.length_map, List.length_cons]; exact Nat.succ_pos _), rfl, ?_⟩
            have hb2 : upd H1 g (.lst ((((x0 :: r).map V.int)).eraseIdx 0)) b = some (.lst [.ref z, .ref g, .int left, .int t1]) := by rw [upd_ne d1]; exact S1.hb
            refine ⟨_, rfl, b, _, _, _, rfl, rfl, hb2, rfl, ?_⟩
            refine hN _ _ ⟨r, small, x0, t1, some (.ref g), rfl, ?_⟩
            exact ⟨by rw [upd_same]; rfl, by rw [upd_ne (Ne.symm d1), upd_same]; rfl, by rw [upd_ne (Ne.symm d2), upd_ne (Ne.symm d3)]; exact S1.hz, fun x hx => S1.p1 x (List.mem_cons_of_mem _ hx), S1.p2, by have := S1.p3; rw [List.length_cons] at this; omega, S1.p4, S1.p1 x0 List.mem_cons_self, S1.p6, fun x n1 n2 n3 => by rw [upd_ne n1, upd_ne n2]; exact S1.ho x n1 n2 n3⟩
          · exact hN _ _ ⟨gs, small, left, t1, none, rfl, S1⟩
        · refine if_of (c := False) rfl (fun hl => hl.elim) fun _ => ?_
          exact hN _ _ ⟨gs, small, left, t1, none, rfl, S1⟩
      · rintro σ' H' ⟨gs, small, left, at_, c2, rfl, S⟩
        refine seq_gen (ts := tIfS _ _ _) (fun σ'' H'' => σ'' = [some (.ref b), some (.int many), c2, none, none, none, none, none] ∧ H'' = H') (fun N hN => ?_) ?_
        · refine ⟨_, rfl, b, _, _, _, rfl, rfl, SqL.of S.hb, rfl, _, _, rfl, rfl, _, rfl, ?_⟩
          refine if_of (c := (0 : Int) < left) rfl (fun hl => ?_) fun hl => ?_
          · refine ⟨_, rfl, b, _, _, _, rfl, rfl, SqL.of S.hb, rfl, .inl ⟨_, rfl, _, rfl, _, _, rfl, rfl, by omega, ?_⟩⟩
            refine ⟨_, rfl, b, _, _, _, rfl, rfl, SqL.of S.hb, rfl, _, rfl, _, _, rfl, rfl, ⟨by omega, m2⟩, _, rfl, b, _, _, _, rfl, rfl, S.hb, rfl, ?_⟩
            refine ⟨_, rfl, fin (gs := gs) (small := small) (left := left / many) (at_ := at_) _ ⟨by rw [upd_same]; rfl, by rw [upd_ne (Ne.symm d1)]; exact S.hg, by rw [upd_ne (Ne.symm d2)]; exact S.hz, S.p1, S.p2, S.p3, S.p4, Int.ediv_nonneg S.p5 (by omega), S.p6, fun x n1 n2 n3 => by rw [upd_ne n1]; exact S.ho x n1 n2 n3⟩ (Int.emod_nonneg _ (by omega)) (Int.emod_lt_of_pos _ (by omega))⟩
          · exact hN _ _ ⟨rfl, rfl⟩
        · rintro σ'' H'' ⟨rfl, rfl⟩
          refine ⟨_, rfl, b, _, _, _, rfl, rfl, SqL.of S.hb, rfl, ?_⟩
          refine ⟨_, rfl, b, _, _, _, rfl, rfl, SqL.of S.hb, rfl, ?_⟩
          refine seq_gen (ts := tAsg (tC (.int 0)) (gName 6)) (fun σ3 H3 => σ3 = [some (.ref b), some (.int many), c2, none, some (.ref z), some (.int at_), some (.int 0), none] ∧ H3 = H'') (fun N hN => hN _ _ ⟨rfl, rfl⟩) ?_
          rintro σ3 H3 ⟨rfl, rfl⟩
          try dsimp only
          refine seq_gen (ts := tIfS _ _ _) (fun σ3 H4 => ∃ c : Int, σ3 = [some (.ref b), some (.int many), c2, none, some (.ref z), some (.int at_), some (.int c), none] ∧ 0 ≤ c ∧ c < 998244353 ∧ H4 = H3) (fun N hN => ?_) ?_
          · refine ⟨_, rfl, z, _, rfl, .inl (SqL.of S.hz), _, _, rfl, rfl, _, rfl, ?_⟩
            refine if_of (c := (0 : Int) < ((small.map V.int).length : Int)) rfl (fun hl => ?_) fun hl => ?_
            · rw [List.length_map] at hl
              have k0 := Int.emod_nonneg at_ (show (small.length : Int) ≠ 0 by omega)
              have k1 := Int.emod_lt_of_pos at_ hl
              obtain ⟨c, hcs, hcm⟩ : ∃ c, atI (small.map V.int) (at_ % (small.length : Int)) = some (V.int c) ∧ c ∈ small := by
                obtain ⟨n, hn⟩ := Int.eq_ofNat_of_zero_le k0
                rw [hn]
                have hlt : n < small.length := by omega
                exact ⟨small[n], atI_nat (by rw [List.getElem?_map, List.getElem?_eq_getElem hlt]; rfl), List.getElem_mem hlt⟩
              obtain ⟨c0, c1⟩ := S.p2 c hcm
              refine ⟨_, rfl, _, rfl, .inl ⟨_, rfl, _, rfl, z, _, rfl, .inl (SqL.of S.hz), _, _, rfl, rfl, by rw [List.length_map]; exact hl, z, _, _, _, rfl, rfl, SqL.of S.hz, by rw [List.length_map]; exact hcs, ?_⟩⟩
              exact hN _ _ ⟨c, rfl, c0, c1, rfl⟩
            · exact hN _ _ ⟨0, rfl, by decide, by decide, rfl⟩
          rintro σ4 H4 ⟨c, rfl, c0, c1, rfl⟩
          try dsimp only
          refine seq_gen (ts := tAsg _ (gName 7)) (fun σ3 H5 => ∃ m : Int, σ3 = [some (.ref b), some (.int many), c2, none, some (.ref z), some (.int at_), some (.int c), some (.int m)] ∧ 0 ≤ m ∧ m < 2147483647 ∧ H5 = H4) (fun N hN => ?_) ?_
          · refine ⟨_, rfl, _, _, rfl, rfl, .inr (by decide), _, rfl, _, _, rfl, rfl, .inr (by decide), _, _, rfl, rfl, _, _, rfl, rfl, .inl ⟨_, rfl, _, _, rfl, rfl, (by show (0 : Int) < 2147483647; decide), ?_⟩⟩
            exact hN _ _ ⟨_, rfl, Int.emod_nonneg _ (by decide), Int.emod_lt_of_pos _ (by decide), rfl⟩
          rintro σ5 H5 ⟨m, rfl, a0, a1, rfl⟩
          try dsimp only
          refine seq_gen (ts := tAsg _ (gName 7)) (fun σ3 H6 => ∃ m : Int, σ3 = [some (.ref b), some (.int many), c2, none, some (.ref z), some (.int at_), some (.int c), some (.int m)] ∧ 0 ≤ m ∧ m < 1000037 ∧ H6 = H5) (fun N hN => ?_) ?_
          · refine ⟨_, rfl, _, rfl, _, _, rfl, rfl, .inl ⟨by omega, by omega⟩, _, rfl, _, rfl, _, _, rfl, rfl, .inl ⟨by omega, by omega⟩, _, _, rfl, rfl, _, rfl, _, _, rfl, rfl, .inr (by decide), _, _, rfl, rfl, .inl ⟨_, rfl, _, _, rfl, rfl, (by show (0 : Int) < 1000037; decide), ?_⟩⟩
            exact hN _ _ ⟨_, rfl, Int.emod_nonneg _ (by decide), Int.emod_lt_of_pos _ (by decide), rfl⟩
          rintro σ6 H6 ⟨m2, rfl, b0, b1, rfl⟩
          try dsimp only
          refine seq_gen (ts := tAsg _ (gName 7)) (fun σ3 H7 => ∃ m : Int, σ3 = [some (.ref b), some (.int many), c2, none, some (.ref z), some (.int at_), some (.int c), some (.int m)] ∧ H7 = H6) (fun N hN => ?_) ?_
          · refine ⟨_, rfl, _, rfl, _, _, rfl, rfl, .inl ⟨by omega, by omega⟩, _, _, rfl, rfl, .inr (by decide), _, rfl, _, _, rfl, rfl, _, rfl, _, _, rfl, rfl, .inl ⟨_, rfl, _, _, rfl, rfl, (by show (0 : Int) < 2147483579; decide), ?_⟩⟩
            exact hN _ _ ⟨_, rfl, rfl⟩
          rintro σ7 H7 ⟨m3, rfl, rfl⟩
          try dsimp only
          refine ⟨_, rfl, _, _, rfl, rfl, ⟨by decide, by decide⟩, .inl ⟨_, rfl, _, rfl, _, _, rfl, rfl, by omega, ?_⟩⟩
          exact fin _ S (Int.emod_nonneg _ (by omega)) (Int.emod_lt_of_pos _ (by omega))
end Pf

namespace Pf
open PySem L2 Dl Sh
open Evl (Ex)
open Ry
local macro_rules | `(tactic| walk_at "r0") => `(tactic| with_reducible first
  | refine sw_seq ?_
  | refine ew_var rfl ?_
  | refine ew_int ?_
  | refine ew_bl ?_
  | refine ew_non ?_
  | refine ew_str ?_
  | refine aw_cons ?_
  | refine aw_nil ?_
  | refine sw_par ?_
  | refine sw_next ?_
  | refine sw_if ?_
  | refine sw_ret ?_
  | refine tw_not ?_
  | refine tw_and ?_
  | refine tw_or ?_
  | refine tw_test ?_
  | refine tw_B ?_
  | refine tw_tru rfl ?_
  | refine ew_andV ?_
  | refine ew_orV ?_
  | refine ew_notV ?_
  | refine ew_if ?_
  | refine ew_chain ?_
  | refine ew_isN ?_
  | refine ew_tup ?_
  | refine ew_lst ?_
  | refine ew_isiD isN_int rfl ?_
  | refine ew_isiD isN_bool rfl ?_
  | refine ew_isiD isN_tuple rfl ?_
  | refine ew_isiD isN_list rfl ?_
  | refine ew_isiD isN_str rfl ?_
  | refine ew_isi2D isN_list isN_tuple rfl ?_
  | refine ew_isi2D isN_tuple isN_list rfl ?_
  | refine ew_cb ?_
  | refine ew_neg ?_
  | refine ew_op ?_
  | refine ⟨_, opv_int, ?_⟩
  | refine ⟨_, opv_cmp, ?_⟩
  | refine ⟨_, opv_eq, ?_⟩
  | refine ⟨_, opv_ne, ?_⟩
  | refine ⟨_, opv_eqB, ?_⟩
  | refine ⟨_, opv_eqS, ?_⟩
  | refine ⟨_, cbv_abs, ?_⟩
  | refine ⟨_, cbv_max2, ?_⟩
  | refine ⟨_, cbv_min2, ?_⟩
  | refine pw_none ?_
  | refine pw_some ?_
  | refine ⟨_, cbv_int, ?_⟩
  | refine ⟨_, rfl, ?_⟩
  | refine ⟨_, _, rfl, ?_⟩
  | refine ⟨_, _, _, rfl, ?_⟩
  | refine ⟨_, _, _, _, rfl, ?_⟩
  | refine br_t ?_
  | refine br_f ?_
  | refine ⟨dt_int, ?_⟩
  | refine ⟨dt_bl, ?_⟩
  | refine ⟨dt_str, ?_⟩
  | refine ⟨dt_non, ?_⟩
  | refine ⟨dt_tup, ?_⟩
  | refine ⟨dt_lst, ?_⟩
  | refine sw_asg ?_
  | refine sw_drop ?_)
local macro_rules | `(tactic| walk_at "r1") => `(tactic| first
  | ((with_reducible refine ew_tupL ?hK ?_); (case hK => rfl))
  | ((with_reducible refine ew_catT ?hK ?_); (case hK => rfl))
  | ((with_reducible refine ew_repT ?hK ?_); (case hK => rfl))
  | ((with_reducible refine ew_of_eb (eb_listL ?hK ?_)); (case hK => rfl))
  | ((with_reducible refine ew_of_eb (eb_cutL ?hK ?_)); (case hK => rfl))
  | walk_at "r0"
  | ((with_reducible refine ew_of_eb (eb_mapT ?hV ?hK ?_)); (case hK => rfl); (case hV => rfl))
  | ((with_reducible refine ew_of_eb (eb_mapL ?hV ?hK ?_)); (case hK => rfl); (case hV => rfl))
  | ((with_reducible refine ew_of_eb (eb_mapR ?hV ?_)); (case hV => rfl))
  | ((with_reducible refine ew_callP ?hK trivial ?_); (case hK => rfl))
  | ((with_reducible refine ew_callW ?hK trivial ?_); (case hK => rfl))
  | ((with_reducible refine ew_callH ?hK trivial ?_); (case hK => rfl))
  | ((with_reducible refine ew_callR ?hK ?hF ?_); (case hK => rfl); (case hF => assumption))
  | ((with_reducible refine len_ok ?hK ?_); (case hK => rfl))
  | ((with_reducible refine ew_notT ?hK ?_); (case hK => rfl))
  | ((with_reducible refine ew_cutT ?hK ?_); (case hK => rfl))
  | ((with_reducible refine ⟨(?hK : Dt _ _), ?_⟩); (case hK => assumption))
  | ((with_reducible refine sw_unp2 ?hK ?hn ?_); (case hK => rfl); (case hn => rfl)))
local macro_rules | `(tactic| walk_at "side") => `(tactic| first
  | exact Or.inr (by decide)
  | exact Or.inl (by decide)
  | exact ⟨by decide, by decide⟩
  | exact ⟨by decide, by decide, by decide⟩
  | decide
  | (dsimp only; decide)
  | exact mw (by assumption) (by assumption))
local macro_rules | `(tactic| walk_at "r2") => `(tactic| first
  | walk_at "r1"
  | ((with_reducible refine ⟨_, opv_intC ?hC, ?_⟩); (case hC => walk_at "side"))
  | ((with_reducible refine ⟨_, cbv_lenL ?hK, ?_⟩); (case hK => rfl))
  | ((with_reducible refine ⟨_, cbv_allM ?hK, ?_⟩); (case hK => rfl))
  | ((with_reducible refine ⟨_, cbv_anyM ?hK, ?_⟩); (case hK => rfl))
  | ((with_reducible refine ⟨_, cbv_sumM ?hK, ?_⟩); (case hK => rfl))
  | ((with_reducible refine ⟨_, cbv_lenT ?hK, ?_⟩); (case hK => rfl))
  | (with_reducible refine ⟨_, opv_ixT (by with_unfolding_all rfl) (by with_unfolding_all rfl), ?_⟩)
  | refine br_t ?_
  | refine br_f ?_)
local macro_rules | `(tactic| walk_at "rd") => `(tactic| repeat (walk_at "r2"))
local macro_rules | `(tactic| walk_at "rs") => `(tactic| repeat ((fail_if_success (with_reducible refine sw_isif ?_)); walk_at "r2"))
local macro_rules | `(tactic| walk_at "nf") => `(tactic| (try simp only [List.set_cons_zero, List.set_cons_succ, Dl.sets, Dl.asD]))
local macro_rules | `(tactic| walk_at "ru") => `(tactic| repeat ((fail_if_success (with_reducible refine sw_seq ?_)); walk_at "r2"))

/-- data that is compared: numbers, truths, None, texts, tuples and lists of such, n deep -/
inductive SD : Nat → D → Prop
  | non (n : Nat) : SD n .non
  | bl (n : Nat) (b : Bool) : SD n (.bl b)
  | int (n : Nat) (i : Int) : SD n (.int i)
  | str (n : Nat) (x : Str) : SD n (.str x)
  | tup (n : Nat) (ds : List D) (h : ∀ d ∈ ds, SD n d) (hl : ds.length ≤ 100000) : SD (n + 1) (.tup ds)
  | lst (n : Nat) (ds : List D) (h : ∀ d ∈ ds, SD n d) (hl : ds.length ≤ 100000) : SD (n + 1) (.lst ds)
theorem SD.kn {n : Nat} {d : D} (h : SD n d) : Kn d := by cases h <;> exact ⟨_, rfl⟩
abbrev c_sameA (n : Nat) : Cn := fun K w ds Ψ Ξ => ∃ d, ds = [d, d] ∧ isLstD d = false ∧ SD n d ∧ Ψ (.fz (.bl true))
abbrev c_sameB (n : Nat) : Cn := fun K w ds Ψ Ξ => ∃ xs, ds = [.lst xs, .lst xs] ∧ SD n (.lst xs) ∧ Ψ (.fz (.bl true))
abbrev c_same (n : Nat) : Cn := COr (c_sameA n) (c_sameB n)
theorem same_in {K : PySem.W.Frag} {n : Nat} {w : Addr} {d : D} {Ψ : B → Prop} {Ξ : Addr → Str → D → Prop} (h : SD n d) (p : Ψ (.fz (.bl true))) : c_same n K w [d, d] Ψ Ξ := by
  cases d with
  | lst xs => exact .inr ⟨xs, rfl, h, p⟩
  | _ => exact .inl ⟨_, rfl, rfl, h, p⟩
theorem l_sameA (n : Nat) : ∀ K w ds Ψ Ξ, c_sameA n K w ds Ψ Ξ → ds.length = 2 := fun K w ds Ψ Ξ h => by
  obtain ⟨_, rfl, _⟩ := h
  rfl
theorem l_sameB (n : Nat) : ∀ K w ds Ψ Ξ, c_sameB n K w ds Ψ Ξ → ds.length = 2 := fun K w ds Ψ Ξ h => by
  obtain ⟨_, rfl, _⟩ := h
  rfl
theorem l_same (n : Nat) : ∀ K w ds Ψ Ξ, c_same n K w ds Ψ Ξ → ds.length = 2 := fun K w ds Ψ Ξ h => h.elim (l_sameA n K w ds Ψ Ξ) (l_sameB n K w ds Ψ Ξ)
theorem same_step {P : Program} {w : World} {K : PySem.W.Frag} {mg : Str → Option Value} {base : Heap} {A : Ad} (T : Txt K mg A) {n k : Nat} {sp : Sp} (G : FnOk P w K mg base CX0 k A._law_same A.fd__law_same ["told", "due"] sp) (hsp : ∀ m, n = m + 1 → sp = SpD K AnyR (c_same m)) :
    FnOk P w K mg base CX0 (k + 1) A._law_same A.fd__law_same ["told", "due"] (SpD K AnyR (c_same n)) := by
  refine T.F__law_same.ok sc__law_same (fun vs H Q E h => spd_len (l_same n) h) (fun cdv A' outer s H vs Q E hr h => ?_)
  rcases spd_or h with h | h
  · refine ⟨_,
(pss_cons (ps_if (pt_cmpR op_isN (pv 1) pe_non (nomark _)) (pss_one (ps_ret (pe_cmpR op_isN (pv 0) pe_non (nomark _)))) pss_nil)
        (pss_cons (ps_if (pt_val (pe_callB call_isi (by rfl) T.b_isinstance (by decide +kernel) (pa_cons (pv 1) (pa_cons (pe_bltn (v := .ty "bool") (by rfl) T.b_bool (by decide +kernel) rfl) pa_nil)))) (pss_one (ps_ret (pe_and (pe_callB call_isi (by rfl) T.b_isinstance (by decide +kernel) (pa_cons (pv 0) (pa_cons (pe_bltn (v := .ty "bool") (by rfl) T.b_bool (by decide +kernel) rfl) pa_nil))) (pe_one (pe_cmpR op_eq (pv 0) (pv 1) (nomark _)))))) pss_nil)
        (pss_cons (ps_if (pt_val (pe_callB call_isi (by rfl) T.b_isinstance (by decide +kernel) (pa_cons (pv 1) (pa_cons (pe_bltn (v := .ty "int") (by rfl) T.b_int (by decide +kernel) rfl) pa_nil)))) (pss_one (ps_ret (pe_and (pe_callB call_isi (by rfl) T.b_isinstance (by decide +kernel) (pa_cons (pv 0) (pa_cons (pe_bltn (v := .ty "int") (by rfl) T.b_int (by decide +kernel) rfl) pa_nil))) (pe_and (pe_not (pe_callB call_isi (by rfl) T.b_isinstance (by decide +kernel) (pa_cons (pv 0) (pa_cons (pe_bltn (v := .ty "bool") (by rfl) T.b_bool (by decide +kernel) rfl) pa_nil)))) (pe_one (pe_cmpR op_eq (pv 0) (pv 1) (nomark _))))))) pss_nil)
        (pss_cons (ps_if (pt_val (pe_callB call_isi (by rfl) T.b_isinstance (by decide +kernel) (pa_cons (pv 1) (pa_cons (pe_bltn (v := .ty "str") (by rfl) T.b_str (by decide +kernel) rfl) pa_nil)))) (pss_one (ps_ret (pe_and (pe_callB call_isi (by rfl) T.b_isinstance (by decide +kernel) (pa_cons (pv 0) (pa_cons (pe_bltn (v := .ty "str") (by rfl) T.b_str (by decide +kernel) rfl) pa_nil))) (pe_one (pe_cmpR op_eq (pv 0) (pv 1) (nomark _)))))) pss_nil)
        (pss_cons (ps_if (pt_val (pe_callB call_isi (by rfl) T.b_isinstance (by decide +kernel) (pa_cons (pv 1) (pa_cons (pe_bltn (v := .ty "list") (by rfl) T.b_list (by decide +kernel) rfl) pa_nil)))) (pss_one (ps_if (PW.pt (pw_or (pt_not (pt_val (pe_callB call_isi (by rfl) T.b_isinstance (by decide +kernel) (pa_cons (pv 0) (pa_cons (pe_bltn (v := .ty "list") (by rfl) T.b_list (by decide +kernel) rfl) pa_nil))))) (pw_or1 (pt_cmpR op_ne (pe_callB call_len_seq (by rfl) T.b_len (by decide +kernel) (pa_cons (pv 0) pa_nil)) (pe_callB call_len_seq (by rfl) T.b_len (by decide +kernel) (pa_cons (pv 1) pa_nil)) (nomark _))))) (pss_one (ps_ret pe_bl)) pss_nil)) (pss_one (ps_if (PW.pt (pw_or (pt_not (pt_val (pe_callB call_isi (by rfl) T.b_isinstance (by decide +kernel) (pa_cons (pv 0) (pa_cons (pe_bltn (v := .ty "tuple") (by rfl) T.b_tuple (by decide +kernel) rfl) pa_nil))))) (pw_or1 (pt_cmpR op_ne (pe_callB call_len_seq (by rfl) T.b_len (by decide +kernel) (pa_cons (pv 0) pa_nil)) (pe_callB call_len_seq (by rfl) T.b_len (by decide +kernel) (pa_cons (pv 1) pa_nil)) (nomark _))))) (pss_one (ps_ret pe_bl)) pss_nil)))
        (pss_cons (ps_for PassesOwn.never rfl (pi_range1 (by rfl) T.b_range (pa_cons (pe_callB call_len_seq (by rfl) T.b_len (by decide +kernel) (pa_cons (pv 1) pa_nil)) pa_nil)) (pg_name (i := 2) sc__law_same.nd rfl (.inl rfl)) (pss_one (ps_if (pt_not (pt_val (pe_call (G) hr (by rfl) T.m__law_same T.F__law_same.kp (b__law_same T) .nil pass0 (pa_cons (pe_ix ix_tup (pv 0) (pv 2) (fun _ _ => rfl)) (pa_cons (pe_ix ix_tup (pv 1) (pv 2) (fun _ _ => rfl)) pa_nil))))) (pss_one (ps_ret pe_bl)) pss_nil)))
        (pss_one (ps_ret pe_bl))))))))
      , ?_⟩
    refine body_ok 2 (by decide) (l_sameA n) h (fun Γ ds Ψ Ξ hK hX hF hc ke => ?_)
    subst hK
    obtain ⟨d, rfl, hno, hd, hc⟩ := hc
    cases hd with
    | non n =>
      walk_at "rd"
      exact hc
    | bl n b =>
      walk_at "rd"
      rw [decide_eq_true rfl]
      exact hc
    | int n i =>
      walk_at "rd"
      rw [decide_eq_true rfl]
      exact hc
    | str n x =>
      walk_at "rd"
      rw [decide_eq_true rfl]
      exact hc
    | lst n ds hs hl => cases hno
    | tup n ds hs hl =>
      have esp := hsp n rfl
      subst esp
      walk_at "rd"
      rw [decide_eq_true rfl]
      walk_at "rd"
      refine sw_forR (aw_cons (ew_cb (aw_cons (ew_var rfl (aw_nil ⟨_, cbv_lenT rfl, aw_nil ⟨_, rfl, by constructor <;> omega, fun i ρ => ∃ b, ρ = [some (.fz (.tup ds)), some (.fz (.tup ds)), b], ⟨none, rfl⟩, ?_, ?_⟩⟩)))))
      · rintro i ρ2 hi ⟨b, rfl⟩
        have hi' : i < ds.length := by omega
        obtain ⟨x, hx⟩ : ∃ x, ds[i]? = some x := ⟨ds[i], List.getElem?_eq_getElem hi'⟩
        refine ⟨_, gd_name, ?_⟩
        walk_at "rd"
        refine ⟨_, opv_ixT rfl (at_nat hx), ?_⟩
        walk_at "rd"
        refine ⟨_, opv_ixT rfl (at_nat hx), ?_⟩
        walk_at "rd"
        refine same_in (hs x (List.mem_of_getElem? hx)) ⟨_, rfl, ?_⟩
        walk_at "rd"
        exact ⟨_, rfl⟩
      · rintro ρ2 ⟨b, rfl⟩
        walk_at "rd"
        exact hc
  · refine ⟨_,
(pss_cons (ps_if (pt_cmpR op_isN (pv 1) pe_non (nomark _)) (pss_one (ps_ret (pe_cmpR op_isN (pv 0) pe_non (nomark _)))) pss_nil)
        (pss_cons (ps_if (pt_val (pe_callB call_isi (by rfl) T.b_isinstance (by decide +kernel) (pa_cons (pv 1) (pa_cons (pe_bltn (v := .ty "bool") (by rfl) T.b_bool (by decide +kernel) rfl) pa_nil)))) (pss_one (ps_ret (pe_and (pe_callB call_isi (by rfl) T.b_isinstance (by decide +kernel) (pa_cons (pv 0) (pa_cons (pe_bltn (v := .ty "bool") (by rfl) T.b_bool (by decide +kernel) rfl) pa_nil))) (pe_one (pe_cmpR op_eq (pv 0) (pv 1) (nomark _)))))) pss_nil)
        (pss_cons (ps_if (pt_val (pe_callB call_isi (by rfl) T.b_isinstance (by decide +kernel) (pa_cons (pv 1) (pa_cons (pe_bltn (v := .ty "int") (by rfl) T.b_int (by decide +kernel) rfl) pa_nil)))) (pss_one (ps_ret (pe_and (pe_callB call_isi (by rfl) T.b_isinstance (by decide +kernel) (pa_cons (pv 0) (pa_cons (pe_bltn (v := .ty "int") (by rfl) T.b_int (by decide +kernel) rfl) pa_nil))) (pe_and (pe_not (pe_callB call_isi (by rfl) T.b_isinstance (by decide +kernel) (pa_cons (pv 0) (pa_cons (pe_bltn (v := .ty "bool") (by rfl) T.b_bool (by decide +kernel) rfl) pa_nil)))) (pe_one (pe_cmpR op_eq (pv 0) (pv 1) (nomark _))))))) pss_nil)
        (pss_cons (ps_if (pt_val (pe_callB call_isi (by rfl) T.b_isinstance (by decide +kernel) (pa_cons (pv 1) (pa_cons (pe_bltn (v := .ty "str") (by rfl) T.b_str (by decide +kernel) rfl) pa_nil)))) (pss_one (ps_ret (pe_and (pe_callB call_isi (by rfl) T.b_isinstance (by decide +kernel) (pa_cons (pv 0) (pa_cons (pe_bltn (v := .ty "str") (by rfl) T.b_str (by decide +kernel) rfl) pa_nil))) (pe_one (pe_cmpR op_eq (pv 0) (pv 1) (nomark _)))))) pss_nil)
        (pss_cons (ps_if (pt_val (pe_callB call_isi (by rfl) T.b_isinstance (by decide +kernel) (pa_cons (pv 1) (pa_cons (pe_bltn (v := .ty "list") (by rfl) T.b_list (by decide +kernel) rfl) pa_nil)))) (pss_one (ps_if (PW.pt (pw_or (pt_not (pt_val (pe_callB call_isi (by rfl) T.b_isinstance (by decide +kernel) (pa_cons (pv 0) (pa_cons (pe_bltn (v := .ty "list") (by rfl) T.b_list (by decide +kernel) rfl) pa_nil))))) (pw_or1 (pt_cmpR op_ne (pe_callB call_len_seq (by rfl) T.b_len (by decide +kernel) (pa_cons (pv 0) pa_nil)) (pe_callB call_len_seq (by rfl) T.b_len (by decide +kernel) (pa_cons (pv 1) pa_nil)) (nomark _))))) (pss_one (ps_ret pe_bl)) pss_nil)) (pss_one (ps_if (PW.pt (pw_or (pt_not (pt_val (pe_callB call_isi (by rfl) T.b_isinstance (by decide +kernel) (pa_cons (pv 0) (pa_cons (pe_bltn (v := .ty "tuple") (by rfl) T.b_tuple (by decide +kernel) rfl) pa_nil))))) (pw_or1 (pt_cmpR op_ne (pe_callB call_len_seq (by rfl) T.b_len (by decide +kernel) (pa_cons (pv 0) pa_nil)) (pe_callB call_len_seq (by rfl) T.b_len (by decide +kernel) (pa_cons (pv 1) pa_nil)) (nomark _))))) (pss_one (ps_ret pe_bl)) pss_nil)))
        (pss_cons (ps_for PassesOwn.never rfl (pi_range1 (by rfl) T.b_range (pa_cons (pe_callB call_len_seq (by rfl) T.b_len (by decide +kernel) (pa_cons (pv 1) pa_nil)) pa_nil)) (pg_name (i := 2) sc__law_same.nd rfl (.inl rfl)) (pss_one (ps_if (pt_not (pt_val (pe_call (G) hr (by rfl) T.m__law_same T.F__law_same.kp (b__law_same T) .nil pass0 (pa_cons (pe_ix ix_list (pv 0) (pv 2) (fun _ _ => rfl)) (pa_cons (pe_ix ix_list (pv 1) (pv 2) (fun _ _ => rfl)) pa_nil))))) (pss_one (ps_ret pe_bl)) pss_nil)))
        (pss_one (ps_ret pe_bl))))))))
      , ?_⟩
    refine body_ok 2 (by decide) (l_sameB n) h (fun Γ ds Ψ Ξ hK hX hF hc ke => ?_)
    subst hK
    obtain ⟨ds, rfl, hd, hc⟩ := hc
    cases hd with
    | lst n ds hs hl =>
      have esp := hsp n rfl
      subst esp
      walk_at "rd"
      rw [decide_eq_true rfl]
      walk_at "rd"
      refine sw_forR (aw_cons (ew_cb (aw_cons (ew_var rfl (aw_nil ⟨_, cbv_lenL rfl, aw_nil ⟨_, rfl, by constructor <;> omega, fun i ρ => ∃ b, ρ = [some (.fz (.lst ds)), some (.fz (.lst ds)), b], ⟨none, rfl⟩, ?_, ?_⟩⟩)))))
      · rintro i ρ2 hi ⟨b, rfl⟩
        have hi' : i < ds.length := by omega
        obtain ⟨x, hx⟩ : ∃ x, ds[i]? = some x := ⟨ds[i], List.getElem?_eq_getElem hi'⟩
        refine ⟨_, gd_name, ?_⟩
        walk_at "rd"
        refine ⟨_, opv_ixL rfl (at_nat hx), ?_⟩
        walk_at "rd"
        refine ⟨_, opv_ixL rfl (at_nat hx), ?_⟩
        walk_at "rd"
        refine same_in (hs x (List.mem_of_getElem? hx)) ⟨_, rfl, ?_⟩
        walk_at "rd"
        exact ⟨_, rfl⟩
      · rintro ρ2 ⟨b, rfl⟩
        walk_at "rd"
        exact hc
theorem ok_same {P : Program} {w : World} {K : PySem.W.Frag} {mg : Str → Option Value} {base : Heap} {A : Ad} (T : Txt K mg A) : ∀ n, FnOk P w K mg base CX0 (n + 2) A._law_same A.fd__law_same ["told", "due"] (SpD K AnyR (c_same n))
  | 0 => same_step T (k := 1) (T.F__law_same.ok sc__law_same (sp := fun _ _ _ _ => False) (fun _ _ _ _ h => h.elim) (fun _ _ _ _ _ _ _ _ _ h => h.elim)) (fun _ e => by cases e)
  | n + 1 => same_step T (ok_same T n) (fun m e => by cases e; rfl)
abbrev c__law_same : Cn := c_same 4
theorem ok__law_same {P : Program} {w : World} {K : PySem.W.Frag} {mg : Str → Option Value} {base : Heap} {A : Ad} (T : Txt K mg A) : FnOk P w K mg base CX0 6 A._law_same A.fd__law_same ["told", "due"] (SpD K AnyR c__law_same) := ok_same T 4
theorem same_stepH {P : Program} {w : World} {K : PySem.W.Frag} {mg : Str → Option Value} {base : Heap} {A : Ad} (T : Txt K mg A) {n k : Nat} {sp : Sp} (G : L2H.FnH P w K mg base CX0 k A._law_same A.fd__law_same ["told", "due"] sp) (hsp : ∀ m, n = m + 1 → sp = SpD K AnyR (c_same m)) :
    L2H.FnH P w K mg base CX0 (k + 1) A._law_same A.fd__law_same ["told", "due"] (SpD K AnyR (c_same n)) := by
  refine okH T.F__law_same sc__law_same (fun vs H Q E h => spd_len (l_same n) h) (fun cdv A' outer s H vs Q E p hc hr h => ?_)
  rcases spd_or h with h | h
  · refine ⟨_,
(pss_cons (ps_if (pt_cmpR op_isN (pv 1) pe_non (nomark _)) (pss_one (ps_ret (pe_cmpR op_isN (pv 0) pe_non (nomark _)))) pss_nil)
        (pss_cons (ps_if (pt_val (pe_callB call_isi (by rfl) T.b_isinstance (by decide +kernel) (pa_cons (pv 1) (pa_cons (pe_bltn (v := .ty "bool") (by rfl) T.b_bool (by decide +kernel) rfl) pa_nil)))) (pss_one (ps_ret (pe_and (pe_callB call_isi (by rfl) T.b_isinstance (by decide +kernel) (pa_cons (pv 0) (pa_cons (pe_bltn (v := .ty "bool") (by rfl) T.b_bool (by decide +kernel) rfl) pa_nil))) (pe_one (pe_cmpR op_eq (pv 0) (pv 1) (nomark _)))))) pss_nil)
        (pss_cons (ps_if (pt_val (pe_callB call_isi (by rfl) T.b_isinstance (by decide +kernel) (pa_cons (pv 1) (pa_cons (pe_bltn (v := .ty "int") (by rfl) T.b_int (by decide +kernel) rfl) pa_nil)))) (pss_one (ps_ret (pe_and (pe_callB call_isi (by rfl) T.b_isinstance (by decide +kernel) (pa_cons (pv 0) (pa_cons (pe_bltn (v := .ty "int") (by rfl) T.b_int (by decide +kernel) rfl) pa_nil))) (pe_and (pe_not (pe_callB call_isi (by rfl) T.b_isinstance (by decide +kernel) (pa_cons (pv 0) (pa_cons (pe_bltn (v := .ty "bool") (by rfl) T.b_bool (by decide +kernel) rfl) pa_nil)))) (pe_one (pe_cmpR op_eq (pv 0) (pv 1) (nomark _))))))) pss_nil)
        (pss_cons (ps_if (pt_val (pe_callB call_isi (by rfl) T.b_isinstance (by decide +kernel) (pa_cons (pv 1) (pa_cons (pe_bltn (v := .ty "str") (by rfl) T.b_str (by decide +kernel) rfl) pa_nil)))) (pss_one (ps_ret (pe_and (pe_callB call_isi (by rfl) T.b_isinstance (by decide +kernel) (pa_cons (pv 0) (pa_cons (pe_bltn (v := .ty "str") (by rfl) T.b_str (by decide +kernel) rfl) pa_nil))) (pe_one (pe_cmpR op_eq (pv 0) (pv 1) (nomark _)))))) pss_nil)
        (pss_cons (ps_if (pt_val (pe_callB call_isi (by rfl) T.b_isinstance (by decide +kernel) (pa_cons (pv 1) (pa_cons (pe_bltn (v := .ty "list") (by rfl) T.b_list (by decide +kernel) rfl) pa_nil)))) (pss_one (ps_if (PW.pt (pw_or (pt_not (pt_val (pe_callB call_isi (by rfl) T.b_isinstance (by decide +kernel) (pa_cons (pv 0) (pa_cons (pe_bltn (v := .ty "list") (by rfl) T.b_list (by decide +kernel) rfl) pa_nil))))) (pw_or1 (pt_cmpR op_ne (pe_callB call_len_seq (by rfl) T.b_len (by decide +kernel) (pa_cons (pv 0) pa_nil)) (pe_callB call_len_seq (by rfl) T.b_len (by decide +kernel) (pa_cons (pv 1) pa_nil)) (nomark _))))) (pss_one (ps_ret pe_bl)) pss_nil)) (pss_one (ps_if (PW.pt (pw_or (pt_not (pt_val (pe_callB call_isi (by rfl) T.b_isinstance (by decide +kernel) (pa_cons (pv 0) (pa_cons (pe_bltn (v := .ty "tuple") (by rfl) T.b_tuple (by decide +kernel) rfl) pa_nil))))) (pw_or1 (pt_cmpR op_ne (pe_callB call_len_seq (by rfl) T.b_len (by decide +kernel) (pa_cons (pv 0) pa_nil)) (pe_callB call_len_seq (by rfl) T.b_len (by decide +kernel) (pa_cons (pv 1) pa_nil)) (nomark _))))) (pss_one (ps_ret pe_bl)) pss_nil)))
        (pss_cons (L2H.ps_forH PassesOwn.never hc (L2H.pi_range1H (by rfl) T.b_range (pa_cons (pe_callB call_len_seq (by rfl) T.b_len (by decide +kernel) (pa_cons (pv 1) pa_nil)) pa_nil)) (pg_name (i := 2) sc__law_same.nd rfl (.inl rfl)) (pss_one (ps_if (pt_not (pt_val (L2H.pe_callH (G) hr hc (by rfl) T.m__law_same T.F__law_same.kp (b__law_same T) pass0A (pa_cons (pe_ix ix_tup (pv 0) (pv 2) (fun _ _ => rfl)) (pa_cons (pe_ix ix_tup (pv 1) (pv 2) (fun _ _ => rfl)) pa_nil))))) (pss_one (ps_ret pe_bl)) pss_nil)))
        (pss_one (ps_ret pe_bl))))))))
      , ?_⟩
    refine body_ok 2 (by decide) (l_sameA n) h (fun Γ ds Ψ Ξ hK hX hF hc ke => ?_)
    subst hK
    obtain ⟨d, rfl, hno, hd, hc⟩ := hc
    cases hd with
    | non n =>
      walk_at "rd"
      exact hc
    | bl n b =>
      walk_at "rd"
      rw [decide_eq_true rfl]
      exact hc
    | int n i =>
      walk_at "rd"
      rw [decide_eq_true rfl]
      exact hc
    | str n x =>
      walk_at "rd"
      rw [decide_eq_true rfl]
      exact hc
    | lst n ds hs hl => cases hno
    | tup n ds hs hl =>
      have esp := hsp n rfl
      subst esp
      walk_at "rd"
      rw [decide_eq_true rfl]
      walk_at "rd"
      refine sw_forR (aw_cons (ew_cb (aw_cons (ew_var rfl (aw_nil ⟨_, cbv_lenT rfl, aw_nil ⟨_, rfl, by constructor <;> omega, fun i ρ => ∃ b, ρ = [some (.fz (.tup ds)), some (.fz (.tup ds)), b], ⟨none, rfl⟩, ?_, ?_⟩⟩)))))
      · rintro i ρ2 hi ⟨b, rfl⟩
        have hi' : i < ds.length := by omega
        obtain ⟨x, hx⟩ : ∃ x, ds[i]? = some x := ⟨ds[i], List.getElem?_eq_getElem hi'⟩
        refine ⟨_, gd_name, ?_⟩
        walk_at "rd"
        refine ⟨_, opv_ixT rfl (at_nat hx), ?_⟩
        walk_at "rd"
        refine ⟨_, opv_ixT rfl (at_nat hx), ?_⟩
        walk_at "rd"
        refine same_in (hs x (List.mem_of_getElem? hx)) ⟨_, rfl, ?_⟩
        walk_at "rd"
        exact ⟨_, rfl⟩
      · rintro ρ2 ⟨b, rfl⟩
        walk_at "rd"
        exact hc
  · refine ⟨_,
(pss_cons (ps_if (pt_cmpR op_isN (pv 1) pe_non (nomark _)) (pss_one (ps_ret (pe_cmpR op_isN (pv 0) pe_non (nomark _)))) pss_nil)
        (pss_cons (ps_if (pt_val (pe_callB call_isi (by rfl) T.b_isinstance (by decide +kernel) (pa_cons (pv 1) (pa_cons (pe_bltn (v := .ty "bool") (by rfl) T.b_bool (by decide +kernel) rfl) pa_nil)))) (pss_one (ps_ret (pe_and (pe_callB call_isi (by rfl) T.b_isinstance (by decide +kernel) (pa_cons (pv 0) (pa_cons (pe_bltn (v := .ty "bool") (by rfl) T.b_bool (by decide +kernel) rfl) pa_nil))) (pe_one (pe_cmpR op_eq (pv 0) (pv 1) (nomark _)))))) pss_nil)
        (pss_cons (ps_if (pt_val (pe_callB call_isi (by rfl) T.b_isinstance (by decide +kernel) (pa_cons (pv 1) (pa_cons (pe_bltn (v := .ty "int") (by rfl) T.b_int (by decide +kernel) rfl) pa_nil)))) (pss_one (ps_ret (pe_and (pe_callB call_isi (by rfl) T.b_isinstance (by decide +kernel) (pa_cons (pv 0) (pa_cons (pe_bltn (v := .ty "int") (by rfl) T.b_int (by decide +kernel) rfl) pa_nil))) (pe_and (pe_not (pe_callB call_isi (by rfl) T.b_isinstance (by decide +kernel) (pa_cons (pv 0) (pa_cons (pe_bltn (v := .ty "bool") (by rfl) T.b_bool (by decide +kernel) rfl) pa_nil)))) (pe_one (pe_cmpR op_eq (pv 0) (pv 1) (nomark _))))))) pss_nil)
        (pss_cons (ps_if (pt_val (pe_callB call_isi (by rfl) T.b_isinstance (by decide +kernel) (pa_cons (pv 1) (pa_cons (pe_bltn (v := .ty "str") (by rfl) T.b_str (by decide +kernel) rfl) pa_nil)))) (pss_one (ps_ret (pe_and (pe_callB call_isi (by rfl) T.b_isinstance (by decide +kernel) (pa_cons (pv 0) (pa_cons (pe_bltn (v := .ty "str") (by rfl) T.b_str (by decide +kernel) rfl) pa_nil))) (pe_one (pe_cmpR op_eq (pv 0) (pv 1) (nomark _)))))) pss_nil)
        (pss_cons (ps_if (pt_val (pe_callB call_isi (by rfl) T.b_isinstance (by decide +kernel) (pa_cons (pv 1) (pa_cons (pe_bltn (v := .ty "list") (by rfl) T.b_list (by decide +kernel) rfl) pa_nil)))) (pss_one (ps_if (PW.pt (pw_or (pt_not (pt_val (pe_callB call_isi (by rfl) T.b_isinstance (by decide +kernel) (pa_cons (pv 0) (pa_cons (pe_bltn (v := .ty "list") (by rfl) T.b_list (by decide +kernel) rfl) pa_nil))))) (pw_or1 (pt_cmpR op_ne (pe_callB call_len_seq (by rfl) T.b_len (by decide +kernel) (pa_cons (pv 0) pa_nil)) (pe_callB call_len_seq (by rfl) T.b_len (by decide +kernel) (pa_cons (pv 1) pa_nil)) (nomark _))))) (pss_one (ps_ret pe_bl)) pss_nil)) (pss_one (ps_if (PW.pt (pw_or (pt_not (pt_val (pe_callB call_isi (by rfl) T.b_isinstance (by decide +kernel) (pa_cons (pv 0) (pa_cons (pe_bltn (v := .ty "tuple") (by rfl) T.b_tuple (by decide +kernel) rfl) pa_nil))))) (pw_or1 (pt_cmpR op_ne (pe_callB call_len_seq (by rfl) T.b_len (by decide +kernel) (pa_cons (pv 0) pa_nil)) (pe_callB call_len_seq (by rfl) T.b_len (by decide +kernel) (pa_cons (pv 1) pa_nil)) (nomark _))))) (pss_one (ps_ret pe_bl)) pss_nil)))
        (pss_cons (L2H.ps_forH PassesOwn.never hc (L2H.pi_range1H (by rfl) T.b_range (pa_cons (pe_callB call_len_seq (by rfl) T.b_len (by decide +kernel) (pa_cons (pv 1) pa_nil)) pa_nil)) (pg_name (i := 2) sc__law_same.nd rfl (.inl rfl)) (pss_one (ps_if (pt_not (pt_val (L2H.pe_callH (G) hr hc (by rfl) T.m__law_same T.F__law_same.kp (b__law_same T) pass0A (pa_cons (pe_ix ix_list (pv 0) (pv 2) (fun _ _ => rfl)) (pa_cons (pe_ix ix_list (pv 1) (pv 2) (fun _ _ => rfl)) pa_nil))))) (pss_one (ps_ret pe_bl)) pss_nil)))
        (pss_one (ps_ret pe_bl))))))))
      , ?_⟩
    refine body_ok 2 (by decide) (l_sameB n) h (fun Γ ds Ψ Ξ hK hX hF hc ke => ?_)
    subst hK
    obtain ⟨ds, rfl, hd, hc⟩ := hc
    cases hd with
    | lst n ds hs hl =>
      have esp := hsp n rfl
      subst esp
      walk_at "rd"
      rw [decide_eq_true rfl]
      walk_at "rd"
      refine sw_forR (aw_cons (ew_cb (aw_cons (ew_var rfl (aw_nil ⟨_, cbv_lenL rfl, aw_nil ⟨_, rfl, by constructor <;> omega, fun i ρ => ∃ b, ρ = [some (.fz (.lst ds)), some (.fz (.lst ds)), b], ⟨none, rfl⟩, ?_, ?_⟩⟩)))))
      · rintro i ρ2 hi ⟨b, rfl⟩
        have hi' : i < ds.length := by omega
        obtain ⟨x, hx⟩ : ∃ x, ds[i]? = some x := ⟨ds[i], List.getElem?_eq_getElem hi'⟩
        refine ⟨_, gd_name, ?_⟩
        walk_at "rd"
        refine ⟨_, opv_ixL rfl (at_nat hx), ?_⟩
        walk_at "rd"
        refine ⟨_, opv_ixL rfl (at_nat hx), ?_⟩
        walk_at "rd"
        refine same_in (hs x (List.mem_of_getElem? hx)) ⟨_, rfl, ?_⟩
        walk_at "rd"
        exact ⟨_, rfl⟩
      · rintro ρ2 ⟨b, rfl⟩
        walk_at "rd"
        exact hc
theorem hok_same {P : Program} {w : World} {K : PySem.W.Frag} {mg : Str → Option Value} {base : Heap} {A : Ad} (T : Txt K mg A) : ∀ n, L2H.FnH P w K mg base CX0 (n + 2) A._law_same A.fd__law_same ["told", "due"] (SpD K AnyR (c_same n))
  | 0 => same_stepH T (k := 1) (okH T.F__law_same sc__law_same (sp := fun _ _ _ _ => False) (fun _ _ _ _ h => h.elim) (fun _ _ _ _ _ _ _ _ _ _ _ h => h.elim)) (fun _ e => by cases e)
  | n + 1 => same_stepH T (hok_same T n) (fun m e => by cases e; rfl)
theorem hok__law_same {P : Program} {w : World} {K : PySem.W.Frag} {mg : Str → Option Value} {base : Heap} {A : Ad} (T : Txt K mg A) : L2H.FnH P w K mg base CX0 6 A._law_same A.fd__law_same ["told", "due"] (SpD K AnyR c__law_same) := hok_same T 4
end Pf

namespace Pf
open PySem L2 Dl Sh
open Evl (Ex)
open Ry
local macro_rules | `(tactic| walk_at "r0") => `(tactic| with_reducible first
  | refine sw_seq ?_
  | refine ew_var rfl ?_
  | refine ew_int ?_
  | refine ew_bl ?_
  | refine ew_non ?_
  | refine ew_str ?_
  | refine aw_cons ?_
  | refine aw_nil ?_
  | refine sw_par ?_
  | refine sw_next ?_
  | refine sw_if ?_
  | refine sw_ret ?_
  | refine tw_not ?_
  | refine tw_and ?_
  | refine tw_or ?_
  | refine tw_test ?_
  | refine tw_B ?_
  | refine tw_tru rfl ?_
  | refine ew_andV ?_
  | refine ew_orV ?_
  | refine ew_notV ?_
  | refine ew_if ?_
  | refine ew_chain ?_
  | refine ew_isN ?_
  | refine ew_tup ?_
  | refine ew_lst ?_
  | refine ew_isiD isN_int rfl ?_
  | refine ew_isiD isN_bool rfl ?_
  | refine ew_isiD isN_tuple rfl ?_
  | refine ew_isiD isN_list rfl ?_
  | refine ew_isiD isN_str rfl ?_
  | refine ew_isi2D isN_list isN_tuple rfl ?_
  | refine ew_isi2D isN_tuple isN_list rfl ?_
  | refine ew_cb ?_
  | refine ew_neg ?_
  | refine ew_op ?_
  | refine ⟨_, opv_int, ?_⟩
  | refine ⟨_, opv_cmp, ?_⟩
  | refine ⟨_, opv_eq, ?_⟩
  | refine ⟨_, opv_ne, ?_⟩
  | refine ⟨_, opv_eqB, ?_⟩
  | refine ⟨_, opv_eqS, ?_⟩
  | refine ⟨_, cbv_abs, ?_⟩
  | refine ⟨_, cbv_max2, ?_⟩
  | refine ⟨_, cbv_min2, ?_⟩
  | refine pw_none ?_
  | refine pw_some ?_
  | refine ⟨_, cbv_int, ?_⟩
  | refine ⟨_, rfl, ?_⟩
  | refine ⟨_, _, rfl, ?_⟩
  | refine ⟨_, _, _, rfl, ?_⟩
  | refine ⟨_, _, _, _, rfl, ?_⟩
  | refine br_t ?_
  | refine br_f ?_
  | refine ⟨dt_int, ?_⟩
  | refine ⟨dt_bl, ?_⟩
  | refine ⟨dt_str, ?_⟩
  | refine ⟨dt_non, ?_⟩
  | refine ⟨dt_tup, ?_⟩
  | refine ⟨dt_lst, ?_⟩
  | refine sw_asg ?_
  | refine sw_drop ?_)
local macro_rules | `(tactic| walk_at "r1") => `(tactic| first
  | ((with_reducible refine ew_tupL ?hK ?_); (case hK => rfl))
  | ((with_reducible refine ew_catT ?hK ?_); (case hK => rfl))
  | ((with_reducible refine ew_repT ?hK ?_); (case hK => rfl))
  | ((with_reducible refine ew_of_eb (eb_listL ?hK ?_)); (case hK => rfl))
  | ((with_reducible refine ew_of_eb (eb_cutL ?hK ?_)); (case hK => rfl))
  | walk_at "r0"
  | ((with_reducible refine ew_of_eb (eb_mapT ?hV ?hK ?_)); (case hK => rfl); (case hV => rfl))
  | ((with_reducible refine ew_of_eb (eb_mapL ?hV ?hK ?_)); (case hK => rfl); (case hV => rfl))
  | ((with_reducible refine ew_of_eb (eb_mapR ?hV ?_)); (case hV => rfl))
  | ((with_reducible refine ew_callP ?hK trivial ?_); (case hK => rfl))
  | ((with_reducible refine ew_callW ?hK trivial ?_); (case hK => rfl))
  | ((with_reducible refine ew_callH ?hK trivial ?_); (case hK => rfl))
  | ((with_reducible refine ew_callR ?hK ?hF ?_); (case hK => rfl); (case hF => assumption))
  | ((with_reducible refine len_ok ?hK ?_); (case hK => rfl))
  | ((with_reducible refine ew_notT ?hK ?_); (case hK => rfl))
  | ((with_reducible refine ew_cutT ?hK ?_); (case hK => rfl))
  | ((with_reducible refine ⟨(?hK : Dt _ _), ?_⟩); (case hK => assumption))
  | ((with_reducible refine sw_unp2 ?hK ?hn ?_); (case hK => rfl); (case hn => rfl)))
local macro_rules | `(tactic| walk_at "side") => `(tactic| first
  | exact Or.inr (by decide)
  | exact Or.inl (by decide)
  | exact ⟨by decide, by decide⟩
  | exact ⟨by decide, by decide, by decide⟩
  | decide
  | (dsimp only; decide)
  | exact mw (by assumption) (by assumption))
local macro_rules | `(tactic| walk_at "r2") => `(tactic| first
  | walk_at "r1"
  | ((with_reducible refine ⟨_, opv_intC ?hC, ?_⟩); (case hC => walk_at "side"))
  | ((with_reducible refine ⟨_, cbv_lenL ?hK, ?_⟩); (case hK => rfl))
  | ((with_reducible refine ⟨_, cbv_allM ?hK, ?_⟩); (case hK => rfl))
  | ((with_reducible refine ⟨_, cbv_anyM ?hK, ?_⟩); (case hK => rfl))
  | ((with_reducible refine ⟨_, cbv_sumM ?hK, ?_⟩); (case hK => rfl))
  | ((with_reducible refine ⟨_, cbv_lenT ?hK, ?_⟩); (case hK => rfl))
  | (with_reducible refine ⟨_, opv_ixT (by with_unfolding_all rfl) (by with_unfolding_all rfl), ?_⟩)
  | refine br_t ?_
  | refine br_f ?_)
local macro_rules | `(tactic| walk_at "rd") => `(tactic| repeat (walk_at "r2"))
local macro_rules | `(tactic| walk_at "rs") => `(tactic| repeat ((fail_if_success (with_reducible refine sw_isif ?_)); walk_at "r2"))
local macro_rules | `(tactic| walk_at "nf") => `(tactic| (try simp only [List.set_cons_zero, List.set_cons_succ, Dl.sets, Dl.asD]))
local macro_rules | `(tactic| walk_at "ru") => `(tactic| repeat ((fail_if_success (with_reducible refine sw_seq ?_)); walk_at "r2"))

abbrev c__law_pick : Cn := fun K w ds Ψ Ξ => ∃ xs : List D, ds = [.ptr w, .lst xs] ∧ 0 < xs.length ∧ xs.length ≤ 1000 ∧ ∀ x ∈ xs, Ψ (.fz x)
theorem l__law_pick : ∀ K w ds Ψ Ξ, c__law_pick K w ds Ψ Ξ → ds.length = 2 := fun K w ds Ψ Ξ h => by
  obtain ⟨_, rfl, _⟩ := h
  rfl
theorem ok__law_pick {P : Program} {w : World} {K : PySem.W.Frag} {mg : Str → Option Value} {base : Heap} {A : Ad} (T : Txt K mg A) : FnOk P w K mg base CX0 2 A._law_pick A.fd__law_pick ["source", "row"] (SpD K IsSrc c__law_pick) := by
  refine Fun.ok T.F__law_pick sc__law_pick (fun vs H Q E h => spd_len (l__law_pick) h) (fun cdv A' outer s H vs Q E hr h => ⟨_, (pss_one (ps_ret (pe_ix ix_list (pv 1) (pe_call (ok__law_draw T) (hr.mono (by decide)) (by rfl) T.m__law_draw T.F__law_draw.kp (b__law_draw T) .nil pass0 (pa_cons (pv 0) (pa_cons (pe_callB call_len_seq (by rfl) T.b_len (by decide +kernel) (pa_cons (pv 1) pa_nil)) pa_nil))) (fun _ _ => rfl)))), ?_⟩)
  refine body_ok 2 (by decide) (l__law_pick) h (fun Γ ds Ψ Ξ hK hX hF hc ke => ?_)
  subst hK
  obtain ⟨xs, rfl, h0, h1, hc⟩ := hc
  walk_at "rd"
  refine ⟨by omega, by omega, fun d d0 d1 => ?_⟩
  obtain ⟨x, hx, hm⟩ := at_ex d0 d1
  refine ⟨_, opv_ixL rfl hx, ?_⟩
  exact hc x hm
abbrev c__law_worth : Cn := fun K w ds Ψ Ξ => ds = [.ptr w] ∧ ∀ i : Int, -99999 ≤ i → i ≤ 99999 → Ψ (.fz (.int i))
theorem l__law_worth : ∀ K w ds Ψ Ξ, c__law_worth K w ds Ψ Ξ → ds.length = 1 := fun K w ds Ψ Ξ h => by
  obtain ⟨rfl, _⟩ := h
  rfl
theorem ok__law_worth {P : Program} {w : World} {K : PySem.W.Frag} {mg : Str → Option Value} {base : Heap} {A : Ad} (T : Txt K mg A) : FnOk P w K mg base CX0 2 A._law_worth A.fd__law_worth ["source"] (SpD K IsSrc c__law_worth) := by
  refine Fun.ok T.F__law_worth sc__law_worth (fun vs H Q E h => spd_len (l__law_worth) h) (fun cdv A' outer s H vs Q E hr h => ⟨_, (pss_cons (ps_set (i := 1) sc__law_worth.nd rfl (.inl rfl) (pe_call (ok__law_draw T) (hr.mono (by decide)) (by rfl) T.m__law_draw T.F__law_draw.kp (b__law_draw T) .nil pass0 (pa_cons (pv 0) (pa_cons pe_int pa_nil))))
        (pss_cons (ps_if (pt_cmpR op_eq (pv 1) pe_int (nomark _)) (pss_one (ps_ret (pe_op op_sub (pe_call (ok__law_draw T) (hr.mono (by decide)) (by rfl) T.m__law_draw T.F__law_draw.kp (b__law_draw T) .nil pass0 (pa_cons (pv 0) (pa_cons pe_int pa_nil))) pe_int))) pss_nil)
        (pss_cons (ps_if (pt_cmpR op_lt (pv 1) pe_int (nomark _)) (pss_one (ps_ret pe_int)) pss_nil)
        (pss_one (ps_ret (pe_op op_sub (pe_call (ok__law_draw T) (hr.mono (by decide)) (by rfl) T.m__law_draw T.F__law_draw.kp (b__law_draw T) .nil pass0 (pa_cons (pv 0) (pa_cons pe_int pa_nil))) pe_int)))))), ?_⟩)
  refine body_ok 1 (by decide) (l__law_worth) h (fun Γ ds Ψ Ξ hK hX hF hc ke => ?_)
  subst hK
  obtain ⟨rfl, hc⟩ := hc
  refine sw_seq ?_
  walk_at "ru"
  refine ⟨by decide, by decide, fun sh s0 s1 => ?_⟩
  walk_at "rd"
  refine ⟨fun h1 => ?_, fun h1 => ?_⟩
  · walk_at "rd"
    refine ⟨by decide, by decide, fun d d0 d1 => ?_⟩
    walk_at "rd"
    exact hc _ (by omega) (by omega)
  · walk_at "rd"
    refine ⟨fun h2 => ?_, fun h2 => ?_⟩
    · walk_at "rd"
      exact hc _ (by omega) (by omega)
    · walk_at "rd"
      refine ⟨by decide, by decide, fun d d0 d1 => ?_⟩
      walk_at "rd"
      exact hc _ (by omega) (by omega)
/-- members no greater than five figures -/
def Sm5 (v : List Int) : Prop := ∀ x ∈ v, -99999 ≤ x ∧ x ≤ 99999
/-- a drawn row -/
structure DrawnR (f S : List Int) : Prop where
  l0 : 1 ≤ f.length
  l1 : f.length ≤ 5
  l : S.length = f.length
  u : f.headD 0 = 1 ∨ f.headD 0 = -1
  sf : Sm5 f
  sS : Sm5 S
@[reducible] def rwD (f S : List Int) : D := .lst [lI f, lI S]
theorem sm5_app {u v : List Int} (hu : Sm5 u) (hv : Sm5 v) : Sm5 (u ++ v) := fun x hx => by
  rcases List.mem_append.mp hx with h | h
  · exact hu x h
  · exact hv x h
theorem sm5_one {x : Int} (h1 : -99999 ≤ x) (h2 : x ≤ 99999) : Sm5 [x] := fun y hy => by
  rw [List.mem_singleton.mp hy]
  exact ⟨h1, h2⟩
theorem eb_worths {Γ : Dl.Ctx} {K : PySem.W.Frag} {ρ : Dl.Env} {ta : TA} {j : Nat} {vs : List Nat} {E : XK} {Ψ : B → Dl.Env → Prop} (hv : vs = [j]) (hK : K = Γ.K) (hF : IsSrc Γ.R) (h0 : ρ[0]? = some (some (.fz (.ptr Γ.R.w)))) (hj : j ≠ 0) (hn : ∀ es, ρ[j]? ≠ some (some (.ow es)))
    (h : AW Γ ta ρ fun ds ρ1 => ρ1 = ρ ∧ ∃ n : Int, ds = [.int n] ∧ 0 ≤ n ∧ n ≤ 1000 ∧ ∀ v : List Int, v.length = n.toNat → Sm5 v → Ψ (.ow (.lst (v.map D.int))) ρ) : EB Γ (tLc (iRng1 ta) (gName j) tYes (tCall (SpD K IsSrc c__law_worth) [] E (tCons (tVar 0) tNil)) vs) ρ Ψ := by
  subst hv
  refine eb_lcR fun σ G H Q k q => h σ G H Q k fun ds ρ1 vs G1 H1 e1 k1 r1 ⟨hρ, n, hd, n0, n1, hp⟩ => q ds ρ1 vs G1 H1 e1 k1 r1 ?_
  subst hρ
  refine ⟨n, hd, by omega, gw_name (List.mem_singleton.mpr rfl), fun i hi es => ?_, by rw [rngD_len]; omega, fun i acc => ∃ v : List Int, acc = v.map D.int ∧ v.length = i ∧ Sm5 v, ⟨[], rfl, rfl, fun x hx => by cases hx⟩, ?_, ?_⟩
  · rw [List.mem_singleton.mp hi]
    exact hn es
  · rintro i x acc c hi ⟨v, rfl, h1, h2⟩
    refine ⟨_, gd_name, wipe_one, tw_yes ⟨rfl, fun _ => ?_, fun z => Bool.noConfusion z⟩⟩
    have e0 : (wipeE ρ1 [j]).set j (some (.fz x)) = ρ1.set j (some (.fz x)) := List.set_set ..
    rw [e0]
    refine ew_callR hK hF (aw_cons (ew_var (by rw [List.getElem?_set_ne hj]; exact h0) (aw_nil ⟨rfl, fun y y0 y1 => ⟨rfl, v ++ [y], by rw [List.map_append]; rfl, by rw [List.length_append, h1]; rfl, sm5_app h2 (sm5_one y0 y1)⟩⟩)))
  · rintro acc ⟨v, rfl, h1, h2⟩
    rw [rngD_len] at h1
    exact hp v h1 h2
abbrev c__law_row : Cn := fun K w ds Ψ Ξ => ds = [.ptr w] ∧ ∀ f S, DrawnR f S → Ψ (.fz (rwD f S))
theorem l__law_row : ∀ K w ds Ψ Ξ, c__law_row K w ds Ψ Ξ → ds.length = 1 := fun K w ds Ψ Ξ h => by
  obtain ⟨rfl, _⟩ := h
  rfl
theorem ok__law_row {P : Program} {w : World} {K : PySem.W.Frag} {mg : Str → Option Value} {base : Heap} {A : Ad} (T : Txt K mg A) : FnOk P w K mg base CX0 3 A._law_row A.fd__law_row ["source"] (SpD K IsSrc c__law_row) := by
  refine Fun.ok T.F__law_row sc__law_row (fun vs H Q E h => spd_len (l__law_row) h) (fun cdv A' outer s H vs Q E hr h => ⟨_, (pss_cons (ps_set (i := 1) sc__law_row.nd rfl (.inl rfl) (pe_call (ok__law_pick T) (hr.mono (by decide)) (by rfl) T.m__law_pick T.F__law_pick.kp (b__law_pick T) .nil pass0 (pa_cons (pv 0) (pa_cons (pe_lst (pa_cons pe_int (pa_cons pe_int (pa_cons pe_int (pa_cons pe_int (pa_cons pe_int (pa_cons pe_int (pa_cons pe_int (pa_cons pe_int pa_nil))))))))) pa_nil))))
        (pss_cons (ps_set (i := 2) sc__law_row.nd rfl (.inl rfl) (pe_op op_cat (pe_lst (pa_cons (pe_op op_sub pe_int (pe_op op_mul pe_int (pe_call (ok__law_draw T) (hr.mono (by decide)) (by rfl) T.m__law_draw T.F__law_draw.kp (b__law_draw T) .nil pass0 (pa_cons (pv 0) (pa_cons pe_int pa_nil))))) pa_nil)) (pe_lc (own := [("k", 3)]) (by rfl) sc__law_row.nd (pi_range1 (by rfl) T.b_range (pa_cons (pe_op op_sub (pv 1) pe_int) pa_nil)) (blkOk_by (own := [("k", 3)]) (N := ["source", "many", "factors", "k", "first"]) (sc := defScope s__law_row) (by decide +kernel)) (fun _ _ _ _ _ => (pg_name (i := 3) sc__law_row.nd rfl (.inl rfl))) (fun _ _ _ _ _ => pts_nil) (fun _ _ _ _ _ => (pe_call (ok__law_worth T) (hr.mono (by decide)) (by rfl) T.m__law_worth T.F__law_worth.kp (b__law_worth T) .nil pass0 (pa_cons (pv 0) pa_nil))))))
        (pss_cons (ps_setLc (i := 4) (own := [("k", 3)]) (by rfl) sc__law_row.nd rfl rfl (sw_true rfl rfl rfl (by decide +kernel)) (pi_range1 (by rfl) T.b_range (pa_cons (pv 1) pa_nil)) (blkOk_by (own := [("k", 3)]) (N := ["source", "many", "factors", "k", "first"]) (sc := defScope s__law_row) (by decide +kernel)) (fun _ _ _ _ _ => (pg_name (i := 3) sc__law_row.nd rfl (.inl rfl))) (fun _ _ _ _ _ => pts_nil) (fun _ _ _ _ _ => (pe_call (ok__law_worth T) (hr.mono (by decide)) (by rfl) T.m__law_worth T.F__law_worth.kp (b__law_worth T) .nil pass0 (pa_cons (pv 0) pa_nil))))
        (pss_cons (ps_if (pt_cmpR op_eq (pe_call (ok__law_draw T) (hr.mono (by decide)) (by rfl) T.m__law_draw T.F__law_draw.kp (b__law_draw T) .nil pass0 (pa_cons (pv 0) (pa_cons pe_int pa_nil))) pe_int (nomark _)) (pss_one (ps_setLc (i := 4) (own := [("k", 3)]) (by rfl) sc__law_row.nd rfl rfl (sw_true rfl rfl rfl (by decide +kernel)) (pi_range1 (by rfl) T.b_range (pa_cons (pv 1) pa_nil)) (blkOk_by (own := [("k", 3)]) (N := ["source", "many", "factors", "k", "first"]) (sc := defScope s__law_row) (by decide +kernel)) (fun _ _ _ _ _ => (pg_name (i := 3) sc__law_row.nd rfl (.inl rfl))) (fun _ _ _ _ _ => pts_nil) (fun _ _ _ _ _ => pe_int))) pss_nil)
        (pss_one (ps_ret (pe_lst (pa_cons (pv 2) (pa_cons (pv 4) pa_nil))))))))), ?_⟩)
  refine body_ok 1 (by decide) (l__law_row) h (fun Γ ds Ψ Ξ hK hX hF hc ke => ?_)
  subst hK
  obtain ⟨rfl, hc⟩ := hc
  refine sw_seq ?_
  walk_at "ru"
  refine ⟨by decide, by decide, fun x hx => ?_⟩
  have hm : ∃ m : Nat, x = .int (m : Int) ∧ 1 ≤ m ∧ m ≤ 5 := by
    simp only [List.mem_cons, List.not_mem_nil, or_false] at hx
    rcases hx with rfl | rfl | rfl | rfl | rfl | rfl | rfl | rfl
    · exact ⟨1, rfl, by decide, by decide⟩
    · exact ⟨2, rfl, by decide, by decide⟩
    · exact ⟨2, rfl, by decide, by decide⟩
    · exact ⟨3, rfl, by decide, by decide⟩
    · exact ⟨3, rfl, by decide, by decide⟩
    · exact ⟨3, rfl, by decide, by decide⟩
    · exact ⟨4, rfl, by decide, by decide⟩
    · exact ⟨5, rfl, by decide, by decide⟩
  obtain ⟨m, rfl, m1, m5⟩ := hm
  refine sw_seq (sw_asgB (eb_catE (eb_lst ?_)))
  walk_at "rd"
  refine ⟨by decide, by decide, fun d d0 d1 => ?_⟩
  walk_at "rd"
  refine fun c => ?_
  refine eb_worths rfl rfl hF rfl (by decide) (fun es z => by cases z) ?_
  walk_at "rd"
  refine ⟨rfl, _, rfl, by omega, by omega, fun v hvl hv => ?_⟩
  refine ⟨_, rfl, by rw [List.length_map]; show 1 + _ ≤ _; omega, ?_⟩
  have e1 : [D.int (1 - 2 * d)] ++ v.map D.int = ((1 - 2 * d) :: v).map D.int := rfl
  rw [e1]
  generalize hf : (1 - 2 * d) :: v = f
  have fl : f.length = m := by
    rw [← hf, List.length_cons, hvl]
    omega
  have fu : f.headD 0 = 1 ∨ f.headD 0 = -1 := by
    rw [← hf]
    show 1 - 2 * d = 1 ∨ 1 - 2 * d = -1
    omega
  have fs : Sm5 f := by
    rw [← hf]
    exact sm5_app (u := [1 - 2 * d]) (sm5_one (by omega) (by omega)) hv
  refine sw_seq (sw_asgB (eb_worths rfl rfl hF rfl (by decide) (fun es z => by cases z) ?_))
  walk_at "rd"
  refine ⟨rfl, _, rfl, by omega, by omega, fun S hSl hS => ?_⟩
  rw [Int.toNat_natCast] at hSl
  refine sw_cut (fun ρ => ∃ (S : List Int) (c3 : Option B), S.length = m ∧ Sm5 S ∧ ρ = [some (.fz (.ptr Γ.R.w)), some (.fz (.int m)), some (.ow (.lst (f.map D.int))), c3, some (.ow (.lst (S.map D.int)))]) ?_ ?_
  · walk_at "rd"
    refine ⟨by decide, by decide, fun d2 d20 d21 => ?_⟩
    walk_at "rd"
    refine ⟨fun h1 => ?_, fun h1 => ?_⟩
    · refine sw_asgB (eb_mapR rfl (aw_cons (ew_var rfl (aw_nil ⟨_, rfl, by omega, (fun es z => by cases z), by rw [rngD_len]; omega, (fun _ => .int 0), fun x hx c => ew_int ⟨rfl, rfl⟩, ?_⟩))))
      have e3 : ((rngD (m : Int).toNat).map fun _ => D.int 0) = (List.replicate m (0 : Int)).map D.int := by
        rw [List.map_const', rngD_len, Int.toNat_natCast, List.map_replicate]
      rw [e3]
      exact ⟨List.replicate m 0, none, by rw [List.length_replicate], fun x hx => by rw [(List.mem_replicate.mp hx).2]; exact ⟨by decide, by decide⟩, rfl⟩
    · walk_at "rd"
      exact ⟨S, none, hSl, hS, rfl⟩
  · rintro ρ ⟨S, c3, hSl, hS, rfl⟩
    refine sw_freeze (i := 2) rfl ?_
    refine sw_freeze (i := 4) rfl ?_
    refine sw_ret (ew_lst (aw_cons (ew_var rfl (aw_cons (ew_var rfl (aw_nil ⟨by show 2 ≤ 100000; decide, ?_⟩))))))
    exact hc f S ⟨by omega, by omega, by omega, fu, fs, hS⟩
end Pf

namespace Pf
open PySem L2 Dl Sh
open Evl (Ex)
open Ry
local macro_rules | `(tactic| walk_at "r0") => `(tactic| with_reducible first
  | refine sw_seq ?_
  | refine ew_var rfl ?_
  | refine ew_int ?_
  | refine ew_bl ?_
  | refine ew_non ?_
  | refine ew_str ?_
  | refine aw_cons ?_
  | refine aw_nil ?_
  | refine sw_par ?_
  | refine sw_next ?_
  | refine sw_if ?_
  | refine sw_ret ?_
  | refine tw_not ?_
  | refine tw_and ?_
  | refine tw_or ?_
  | refine tw_test ?_
  | refine tw_B ?_
  | refine tw_tru rfl ?_
  | refine ew_andV ?_
  | refine ew_orV ?_
  | refine ew_notV ?_
  | refine ew_if ?_
  | refine ew_chain ?_
  | refine ew_isN ?_
  | refine ew_tup ?_
  | refine ew_lst ?_
  | refine ew_isiD isN_int rfl ?_
  | refine ew_isiD isN_bool rfl ?_
  | refine ew_isiD isN_tuple rfl ?_
  | refine ew_isiD isN_list rfl ?_
  | refine ew_isiD isN_str rfl ?_
  | refine ew_isi2D isN_list isN_tuple rfl ?_
  | refine ew_isi2D isN_tuple isN_list rfl ?_
  | refine ew_cb ?_
  | refine ew_neg ?_
  | refine ew_op ?_
  | refine ⟨_, opv_int, ?_⟩
  | refine ⟨_, opv_cmp, ?_⟩
  | refine ⟨_, opv_eq, ?_⟩
  | refine ⟨_, opv_ne, ?_⟩
  | refine ⟨_, opv_eqB, ?_⟩
  | refine ⟨_, opv_eqS, ?_⟩
  | refine ⟨_, cbv_abs, ?_⟩
  | refine ⟨_, cbv_max2, ?_⟩
  | refine ⟨_, cbv_min2, ?_⟩
  | refine pw_none ?_
  | refine pw_some ?_
  | refine ⟨_, cbv_int, ?_⟩
  | refine ⟨_, rfl, ?_⟩
  | refine ⟨_, _, rfl, ?_⟩
  | refine ⟨_, _, _, rfl, ?_⟩
  | refine ⟨_, _, _, _, rfl, ?_⟩
  | refine br_t ?_
  | refine br_f ?_
  | refine ⟨dt_int, ?_⟩
  | refine ⟨dt_bl, ?_⟩
  | refine ⟨dt_str, ?_⟩
  | refine ⟨dt_non, ?_⟩
  | refine ⟨dt_tup, ?_⟩
  | refine ⟨dt_lst, ?_⟩
  | refine sw_asg ?_
  | refine sw_drop ?_)
local macro_rules | `(tactic| walk_at "r1") => `(tactic| first
  | ((with_reducible refine ew_tupL ?hK ?_); (case hK => rfl))
  | ((with_reducible refine ew_catT ?hK ?_); (case hK => rfl))
  | ((with_reducible refine ew_repT ?hK ?_); (case hK => rfl))
  | ((with_reducible refine ew_of_eb (eb_listL ?hK ?_)); (case hK => rfl))
  | ((with_reducible refine ew_of_eb (eb_cutL ?hK ?_)); (case hK => rfl))
  | walk_at "r0"
  | ((with_reducible refine ew_of_eb (eb_mapT ?hV ?hK ?_)); (case hK => rfl); (case hV => rfl))
  | ((with_reducible refine ew_of_eb (eb_mapL ?hV ?hK ?_)); (case hK => rfl); (case hV => rfl))
  | ((with_reducible refine ew_of_eb (eb_mapR ?hV ?_)); (case hV => rfl))
  | ((with_reducible refine ew_callP ?hK trivial ?_); (case hK => rfl))
  | ((with_reducible refine ew_callW ?hK trivial ?_); (case hK => rfl))
  | ((with_reducible refine ew_callH ?hK trivial ?_); (case hK => rfl))
  | ((with_reducible refine ew_callR ?hK ?hF ?_); (case hK => rfl); (case hF => assumption))
  | ((with_reducible refine len_ok ?hK ?_); (case hK => rfl))
  | ((with_reducible refine ew_notT ?hK ?_); (case hK => rfl))
  | ((with_reducible refine ew_cutT ?hK ?_); (case hK => rfl))
  | ((with_reducible refine ⟨(?hK : Dt _ _), ?_⟩); (case hK => assumption))
  | ((with_reducible refine sw_unp2 ?hK ?hn ?_); (case hK => rfl); (case hn => rfl)))
local macro_rules | `(tactic| walk_at "side") => `(tactic| first
  | exact Or.inr (by decide)
  | exact Or.inl (by decide)
  | exact ⟨by decide, by decide⟩
  | exact ⟨by decide, by decide, by decide⟩
  | decide
  | (dsimp only; decide)
  | exact mw (by assumption) (by assumption))
local macro_rules | `(tactic| walk_at "r2") => `(tactic| first
  | walk_at "r1"
  | ((with_reducible refine ⟨_, opv_intC ?hC, ?_⟩); (case hC => walk_at "side"))
  | ((with_reducible refine ⟨_, cbv_lenL ?hK, ?_⟩); (case hK => rfl))
  | ((with_reducible refine ⟨_, cbv_allM ?hK, ?_⟩); (case hK => rfl))
  | ((with_reducible refine ⟨_, cbv_anyM ?hK, ?_⟩); (case hK => rfl))
  | ((with_reducible refine ⟨_, cbv_sumM ?hK, ?_⟩); (case hK => rfl))
  | ((with_reducible refine ⟨_, cbv_lenT ?hK, ?_⟩); (case hK => rfl))
  | (with_reducible refine ⟨_, opv_ixT (by with_unfolding_all rfl) (by with_unfolding_all rfl), ?_⟩)
  | refine br_t ?_
  | refine br_f ?_)
local macro_rules | `(tactic| walk_at "rd") => `(tactic| repeat (walk_at "r2"))
local macro_rules | `(tactic| walk_at "rs") => `(tactic| repeat ((fail_if_success (with_reducible refine sw_isif ?_)); walk_at "r2"))
local macro_rules | `(tactic| walk_at "nf") => `(tactic| (try simp only [List.set_cons_zero, List.set_cons_succ, Dl.sets, Dl.asD]))
local macro_rules | `(tactic| walk_at "ru") => `(tactic| repeat ((fail_if_success (with_reducible refine sw_seq ?_)); walk_at "r2"))

/-! the law's own reckoning, without the source -/
abbrev c__law_poly : Cn := fun K w ds Ψ Ξ => ∃ v : List Int, ds = [lI v] ∧ v.length ≤ 1000 ∧ Ψ (.fz (pyD v))
theorem l__law_poly : ∀ K w ds Ψ Ξ, c__law_poly K w ds Ψ Ξ → ds.length = 1 := fun K w ds Ψ Ξ h => by
  obtain ⟨_, rfl, _⟩ := h
  rfl
theorem ok__law_poly {P : Program} {w : World} {K : PySem.W.Frag} {mg : Str → Option Value} {base : Heap} {A : Ad} (T : Txt K mg A) : FnOk P w K mg base CX0 1 A._law_poly A.fd__law_poly ["worths"] (SpD K AnyR c__law_poly) := by
  refine Fun.ok T.F__law_poly sc__law_poly (fun vs H Q E h => spd_len (l__law_poly) h) (fun cdv A' outer s H vs Q E hr h => ⟨_, (pss_one (ps_ret (pe_callTy call_tuple_of (by rfl) T.b_tuple (by decide +kernel) (pa_cons (pe_lc (own := [("worth", 1)]) (by rfl) sc__law_poly.nd (pi_list (pv 0)) (blkOk_by (own := [("worth", 1)]) (N := ["worths", "worth"]) (sc := defScope s__law_poly) (by decide +kernel)) (fun _ _ _ _ _ => (pg_name (i := 1) sc__law_poly.nd rfl (.inl rfl))) (fun _ _ _ _ _ => pts_nil) (fun _ _ _ _ _ => (pe_tup (pa_cons (pv 1) (pa_cons pe_int pa_nil))))) pa_nil)))), ?_⟩)
  refine body_ok 1 (by decide) (l__law_poly) h (fun Γ ds Ψ Ξ hK hX hF hc ke => ?_)
  subst hK
  obtain ⟨v, rfl, hl, hc⟩ := hc
  walk_at "rd"
  refine ⟨(fun es z => by cases z), by rw [List.length_map]; omega, onF, fun x hx c => ?_, ?_⟩
  · obtain ⟨y, hy, rfl⟩ := List.mem_map.mp hx
    walk_at "rd"
    exact ⟨rfl, rfl⟩
  · rw [on_all]
    walk_at "rd"
    exact hc
/-- Horner's bottom -/
def atD (v : List Int) (b : Int) : Int := b ^ (v.length - 1)
abbrev c__law_at : Cn := fun K w ds Ψ Ξ => ∃ (v : List Int) (p : Int × Int), ds = [lI v, shD p] ∧ p.1.natAbs < 2 ^ 100 ∧ p.2.natAbs < 2 ^ 100 ∧ v.length ≤ 50 ∧ Big 2000 v ∧ Ψ (.fz (shD (hT v p.1 p.2, atD v p.2)))
theorem l__law_at : ∀ K w ds Ψ Ξ, c__law_at K w ds Ψ Ξ → ds.length = 2 := fun K w ds Ψ Ξ h => by
  obtain ⟨_, _, rfl, _⟩ := h
  rfl
theorem ok__law_at {P : Program} {w : World} {K : PySem.W.Frag} {mg : Str → Option Value} {base : Heap} {A : Ad} (T : Txt K mg A) : FnOk P w K mg base CX0 1 A._law_at A.fd__law_at ["worths", "x"] (SpD K AnyR c__law_at) := by
  refine Fun.ok T.F__law_at sc__law_at (fun vs H Q E h => spd_len (l__law_at) h) (fun cdv A' outer s H vs Q E hr h => ⟨_, (pss_cons (ps_set (i := 2) sc__law_at.nd rfl (.inl rfl) pe_int)
        (pss_cons (ps_set (i := 3) sc__law_at.nd rfl (.inl rfl) pe_int)
        (pss_cons (ps_set (i := 4) sc__law_at.nd rfl (.inl rfl) pe_int)
        (pss_cons (ps_for PassesOwn.never rfl (pi_range1 (by rfl) T.b_range (pa_cons (pe_callB call_len_seq (by rfl) T.b_len (by decide +kernel) (pa_cons (pv 0) pa_nil)) pa_nil)) (pg_name (i := 5) sc__law_at.nd rfl (.inl rfl)) (pss_cons (ps_set (i := 2) sc__law_at.nd rfl (.inl rfl) (pe_op op_add (pe_op op_mulW (pv 2) (pe_ix ix_tup (pv 1) pe_int (fun _ _ => rfl))) (pe_op op_mulW (pe_ix ix_list (pv 0) (pe_op op_sub (pe_op op_sub (pe_callB call_len_seq (by rfl) T.b_len (by decide +kernel) (pa_cons (pv 0) pa_nil)) pe_int) (pv 5)) (fun _ _ => rfl)) (pv 4))))
        (pss_cons (ps_set (i := 3) sc__law_at.nd rfl (.inl rfl) (pv 4))
        (pss_one (ps_set (i := 4) sc__law_at.nd rfl (.inl rfl) (pe_op op_mulW (pv 4) (pe_ix ix_tup (pv 1) pe_int (fun _ _ => rfl))))))))
        (pss_one (ps_ret (pe_tup (pa_cons (pv 2) (pa_cons (pv 3) pa_nil))))))))), ?_⟩)
  refine body_ok 2 (by decide) (l__law_at) h (fun Γ ds Ψ Ξ hK hX hF hc ke => ?_)
  subst hK
  obtain ⟨v, p, rfl, ba, bb, hl, bv, hc⟩ := hc
  have hbg : ∀ j, Big 2000 (v.drop j) := fun j x hx => bv x (List.mem_of_mem_drop hx)
  refine sw_seq (sw_asg (ew_int ?_))
  refine sw_seq (sw_asg (ew_int ?_))
  refine sw_seq (sw_asg (ew_int ?_))
  refine sw_seq (sw_forR (aw_cons (ew_cb (aw_cons (ew_var rfl (aw_nil ⟨_, cbv_lenL rfl, aw_nil ⟨_, rfl, by rw [List.length_map]; omega, fun i ρ => ∃ c5, ρ = [some (.fz (lI v)), some (.fz (shD p)), some (.fz (.int (hT (v.drop (v.length - i)) p.1 p.2))), some (.fz (.int (p.2 ^ (i - 1)))), some (.fz (.int (p.2 ^ i))), c5], ⟨none, ?_⟩, ?_, ?_⟩⟩))))))
  · rw [Nat.sub_zero, List.drop_length, Nat.zero_sub, Int.pow_zero]
    rfl
  · rintro i ρ2 hi ⟨c5, rfl⟩
    rw [List.length_map, Int.toNat_natCast] at hi
    refine ⟨_, gd_name, ?_⟩
    have hj : v.length - 1 - i < v.length := by omega
    have hd : v.drop (v.length - (i + 1)) = v[v.length - 1 - i] :: v.drop (v.length - i) := by
      have e1 : v.length - (i + 1) = v.length - 1 - i := by omega
      have e2 : v.length - i = v.length - 1 - i + 1 := by omega
      rw [e1, e2]
      exact List.drop_eq_getElem_cons hj
    have hlen : (v.drop (v.length - i)).length = i := by
      rw [List.length_drop]
      omega
    have hb1 := pow_up (hT_bd ba bb (hbg (v.length - i))) (show _ ≤ 10000 by rw [hlen]; omega)
    have hb2 := pow_up (pow_bd bb i) (show _ ≤ 10000 by omega)
    walk_at "rd"
    refine ⟨_, opv_intC (mwG hb1 ba (by decide)), ?_⟩
    walk_at "rd"
    rw [List.length_map]
    have ek : (v.length : Int) - 1 - (i : Int) = ((v.length - 1 - i : Nat) : Int) := by omega
    rw [ek]
    refine ⟨_, opv_ixIL rfl (by omega) (by omega), ?_⟩
    walk_at "rd"
    refine ⟨_, opv_intC (mwG (big_getD bv _) hb2 (by decide)), ?_⟩
    walk_at "rd"
    refine ⟨_, opv_intC (mwG hb2 bb (by decide)), ?_⟩
    have ev : v.getD ((v.length - 1 - i : Nat) : Int).toNat 0 = v[v.length - 1 - i] := by
      rw [Int.toNat_natCast, List.getD_eq_getElem?_getD, List.getElem?_eq_getElem hj]
      rfl
    refine ⟨some (.fz (.int (i : Int))), ?_⟩
    rw [ev, hd, Nat.add_sub_cancel]
    have eh : hT (v[v.length - 1 - i] :: v.drop (v.length - i)) p.1 p.2 = hT (v.drop (v.length - i)) p.1 p.2 * p.1 + v[v.length - 1 - i] * p.2 ^ i := by
      show hT (v.drop (v.length - i)) p.1 p.2 * p.1 + v[v.length - 1 - i] * p.2 ^ (v.drop (v.length - i)).length = _
      rw [hlen]
    rw [eh, Int.pow_succ]
    rfl
  · rintro ρ2 ⟨c5, rfl⟩
    rw [List.length_map, Int.toNat_natCast, Nat.sub_self, List.drop_zero]
    exact sw_ret (ew_tup (aw_cons (ew_var rfl (aw_cons (ew_var rfl (aw_nil ⟨by show 2 ≤ 100000; decide, hc⟩))))))
def botG (f : List Int) : D → D
  | .int k => .int (0 - f.getD (f.length - k.toNat) 0)
  | _ => .non
theorem bot_all {f : List Int} : (rngD2 1 f.length).map (botG f) = (f.reverse.map fun x => -x).map D.int := by
  unfold rngD2
  rw [List.map_map, List.map_map]
  apply List.ext_getElem?
  intro i
  rw [List.getElem?_map, List.getElem?_map]
  by_cases hi : i < f.length
  · rw [List.getElem?_range hi, List.getElem?_reverse hi, List.getElem?_eq_getElem (show f.length - 1 - i < f.length by omega)]
    show some (D.int (0 - f.getD (f.length - ((1 : Int) + (i : Int)).toNat) 0)) = some (D.int (-f[f.length - 1 - i]))
    have e : f.length - ((1 : Int) + (i : Int)).toNat = f.length - 1 - i := by omega
    rw [e, List.getD_eq_getElem?_getD, List.getElem?_eq_getElem (show f.length - 1 - i < f.length by omega), Int.zero_sub]
    rfl
  · rw [List.getElem?_eq_none (by rw [List.length_range]; omega), List.getElem?_eq_none (by rw [List.length_reverse]; omega)]
    rfl
abbrev c__law_bottom : Cn := fun K w ds Ψ Ξ => ∃ f : List Int, ds = [lI f] ∧ f.length ≤ 1000 ∧ Ψ (.fz (lI (botF f)))
theorem l__law_bottom : ∀ K w ds Ψ Ξ, c__law_bottom K w ds Ψ Ξ → ds.length = 1 := fun K w ds Ψ Ξ h => by
  obtain ⟨_, rfl, _⟩ := h
  rfl
theorem ok__law_bottom {P : Program} {w : World} {K : PySem.W.Frag} {mg : Str → Option Value} {base : Heap} {A : Ad} (T : Txt K mg A) : FnOk P w K mg base CX0 1 A._law_bottom A.fd__law_bottom ["factors"] (SpD K AnyR c__law_bottom) := by
  refine Fun.ok T.F__law_bottom sc__law_bottom (fun vs H Q E h => spd_len (l__law_bottom) h) (fun cdv A' outer s H vs Q E hr h => ⟨_, (pss_one (ps_ret (pe_op op_cat (pe_lst (pa_cons pe_int pa_nil)) (pe_lc (own := [("k", 1)]) (by rfl) sc__law_bottom.nd (pi_range2 (by rfl) T.b_range (pa_cons pe_int (pa_cons (pe_op op_add (pe_callB call_len_seq (by rfl) T.b_len (by decide +kernel) (pa_cons (pv 0) pa_nil)) pe_int) pa_nil))) (blkOk_by (own := [("k", 1)]) (N := ["factors", "k"]) (sc := defScope s__law_bottom) (by decide +kernel)) (fun _ _ _ _ _ => (pg_name (i := 1) sc__law_bottom.nd rfl (.inl rfl))) (fun _ _ _ _ _ => pts_nil) (fun _ _ _ _ _ => (pe_op op_sub pe_int (pe_ix (by exact (show IxR _ (rIxL K) from ix_list)) (pv 0) (pe_op op_sub (pe_callB (by exact (show CallR _ _ (rLenS K) from call_len_seq)) (by rfl) T.b_len (by decide +kernel) (pa_cons (pv 0) pa_nil)) (pv 1)) (fun _ _ => rfl)))))))), ?_⟩)
  refine body_ok 1 (by decide) (l__law_bottom) h (fun Γ ds Ψ Ξ hK hX hF hc ke => ?_)
  subst hK
  obtain ⟨f, rfl, hl, hc⟩ := hc
  refine sw_ret (ew_of_eb (eb_catE (eb_lst (aw_cons (ew_int (aw_nil ⟨by show 1 ≤ 100000; decide, _, rfl, fun c => ?_⟩))))))
  refine eb_lcR2 ?_
  walk_at "rd"
  rw [List.length_map]
  have en : ((f.length : Int) + 1 - 1).toNat = f.length := by omega
  refine ⟨by omega, ?_⟩
  rw [en]
  refine Maps.comp ⟨(fun es z => by cases z), by rw [rngD2_len]; omega, botG f, fun x hx c => ?_, ?_⟩
  · unfold rngD2 at hx
    obtain ⟨i, hi, rfl⟩ := List.mem_map.mp hx
    have hi := List.mem_range.mp hi
    walk_at "rd"
    rw [List.length_map]
    refine ⟨_, opv_ixIL rfl (by omega) (by omega), ?_⟩
    walk_at "rd"
    refine ⟨rfl, ?_⟩
    have e : ((f.length : Int) - (1 + (i : Int))).toNat = f.length - ((1 : Int) + (i : Int)).toNat := by omega
    rw [e]
    rfl
  · rw [bot_all]
    refine ⟨_, rfl, by rw [List.length_map, List.length_map, List.length_reverse]; show 1 + _ ≤ _; omega, hc⟩
end Pf

namespace Pf
open PySem L2 Dl Sh
open Evl (Ex)
open Ry
local macro_rules | `(tactic| walk_at "r0") => `(tactic| with_reducible first
  | refine sw_seq ?_
  | refine ew_var rfl ?_
  | refine ew_int ?_
  | refine ew_bl ?_
  | refine ew_non ?_
  | refine ew_str ?_
  | refine aw_cons ?_
  | refine aw_nil ?_
  | refine sw_par ?_
  | refine sw_next ?_
  | refine sw_if ?_
  | refine sw_ret ?_
  | refine tw_not ?_
  | refine tw_and ?_
  | refine tw_or ?_
  | refine tw_test ?_
  | refine tw_B ?_
  | refine tw_tru rfl ?_
  | refine ew_andV ?_
  | refine ew_orV ?_
  | refine ew_notV ?_
  | refine ew_if ?_
  | refine ew_chain ?_
  | refine ew_isN ?_
  | refine ew_tup ?_
  | refine ew_lst ?_
  | refine ew_isiD isN_int rfl ?_
  | refine ew_isiD isN_bool rfl ?_
  | refine ew_isiD isN_tuple rfl ?_
  | refine ew_isiD isN_list rfl ?_
  | refine ew_isiD isN_str rfl ?_
  | refine ew_isi2D isN_list isN_tuple rfl ?_
  | refine ew_isi2D isN_tuple isN_list rfl ?_
  | refine ew_cb ?_
  | refine ew_neg ?_
  | refine ew_op ?_
  | refine ⟨_, opv_int, ?_⟩
  | refine ⟨_, opv_cmp, ?_⟩
  | refine ⟨_, opv_eq, ?_⟩
  | refine ⟨_, opv_ne, ?_⟩
  | refine ⟨_, opv_eqB, ?_⟩
  | refine ⟨_, opv_eqS, ?_⟩
  | refine ⟨_, cbv_abs, ?_⟩
  | refine ⟨_, cbv_max2, ?_⟩
  | refine ⟨_, cbv_min2, ?_⟩
  | refine pw_none ?_
  | refine pw_some ?_
  | refine ⟨_, cbv_int, ?_⟩
  | refine ⟨_, rfl, ?_⟩
  | refine ⟨_, _, rfl, ?_⟩
  | refine ⟨_, _, _, rfl, ?_⟩
  | refine ⟨_, _, _, _, rfl, ?_⟩
  | refine br_t ?_
  | refine br_f ?_
  | refine ⟨dt_int, ?_⟩
  | refine ⟨dt_bl, ?_⟩
  | refine ⟨dt_str, ?_⟩
  | refine ⟨dt_non, ?_⟩
  | refine ⟨dt_tup, ?_⟩
  | refine ⟨dt_lst, ?_⟩
  | refine sw_asg ?_
  | refine sw_drop ?_)
local macro_rules | `(tactic| walk_at "r1") => `(tactic| first
  | ((with_reducible refine ew_tupL ?hK ?_); (case hK => rfl))
  | ((with_reducible refine ew_catT ?hK ?_); (case hK => rfl))
  | ((with_reducible refine ew_repT ?hK ?_); (case hK => rfl))
  | ((with_reducible refine ew_of_eb (eb_listL ?hK ?_)); (case hK => rfl))
  | ((with_reducible refine ew_of_eb (eb_cutL ?hK ?_)); (case hK => rfl))
  | walk_at "r0"
  | ((with_reducible refine ew_of_eb (eb_mapT ?hV ?hK ?_)); (case hK => rfl); (case hV => rfl))
  | ((with_reducible refine ew_of_eb (eb_mapL ?hV ?hK ?_)); (case hK => rfl); (case hV => rfl))
  | ((with_reducible refine ew_of_eb (eb_mapR ?hV ?_)); (case hV => rfl))
  | ((with_reducible refine ew_callP ?hK trivial ?_); (case hK => rfl))
  | ((with_reducible refine ew_callW ?hK trivial ?_); (case hK => rfl))
  | ((with_reducible refine ew_callH ?hK trivial ?_); (case hK => rfl))
  | ((with_reducible refine ew_callR ?hK ?hF ?_); (case hK => rfl); (case hF => assumption))
  | ((with_reducible refine len_ok ?hK ?_); (case hK => rfl))
  | ((with_reducible refine ew_notT ?hK ?_); (case hK => rfl))
  | ((with_reducible refine ew_cutT ?hK ?_); (case hK => rfl))
  | ((with_reducible refine ⟨(?hK : Dt _ _), ?_⟩); (case hK => assumption))
  | ((with_reducible refine sw_unp2 ?hK ?hn ?_); (case hK => rfl); (case hn => rfl)))
local macro_rules | `(tactic| walk_at "side") => `(tactic| first
  | exact Or.inr (by decide)
  | exact Or.inl (by decide)
  | exact ⟨by decide, by decide⟩
  | exact ⟨by decide, by decide, by decide⟩
  | decide
  | (dsimp only; decide)
  | exact mw (by assumption) (by assumption))
local macro_rules | `(tactic| walk_at "r2") => `(tactic| first
  | walk_at "r1"
  | ((with_reducible refine ⟨_, opv_intC ?hC, ?_⟩); (case hC => walk_at "side"))
  | ((with_reducible refine ⟨_, cbv_lenL ?hK, ?_⟩); (case hK => rfl))
  | ((with_reducible refine ⟨_, cbv_allM ?hK, ?_⟩); (case hK => rfl))
  | ((with_reducible refine ⟨_, cbv_anyM ?hK, ?_⟩); (case hK => rfl))
  | ((with_reducible refine ⟨_, cbv_sumM ?hK, ?_⟩); (case hK => rfl))
  | ((with_reducible refine ⟨_, cbv_lenT ?hK, ?_⟩); (case hK => rfl))
  | (with_reducible refine ⟨_, opv_ixT (by with_unfolding_all rfl) (by with_unfolding_all rfl), ?_⟩)
  | refine br_t ?_
  | refine br_f ?_)
local macro_rules | `(tactic| walk_at "rd") => `(tactic| repeat (walk_at "r2"))
local macro_rules | `(tactic| walk_at "rs") => `(tactic| repeat ((fail_if_success (with_reducible refine sw_isif ?_)); walk_at "r2"))
local macro_rules | `(tactic| walk_at "nf") => `(tactic| (try simp only [List.set_cons_zero, List.set_cons_succ, Dl.sets, Dl.asD]))
local macro_rules | `(tactic| walk_at "ru") => `(tactic| repeat ((fail_if_success (with_reducible refine sw_seq ?_)); walk_at "r2"))

theorem conv_sum {s : List Int} : ∀ {b : List Int} {k : Nat}, ((List.range (min (k + 1) b.length)).map fun i => s.getD (k - i) 0 * b.getD i 0).sum = conv b s k
  | [], k => by
    rw [List.length_nil, Nat.min_zero]
    rfl
  | x :: b, k => by
    have e : min (k + 1) (x :: b).length = min k b.length + 1 := by
      rw [List.length_cons]
      omega
    rw [e, List.range_succ_eq_map, List.map_cons, List.sum_cons, List.map_map]
    show s.getD (k - 0) 0 * x + _ = _
    rw [Nat.sub_zero, Int.mul_comm]
    rw [conv_cons]
    congr 1
    cases k with
    | zero =>
      rw [Nat.zero_min]
      rfl
    | succ k =>
      have es : sft 1 (conv b s) (k + 1) = conv b s k := by
        unfold sft
        rw [if_pos (by omega)]
        rfl
      rw [es, ← conv_sum (b := b) (k := k)]
      congr 1
      apply List.map_congr_left
      intro i hi
      show s.getD (k + 1 - (i + 1)) 0 * (x :: b).getD (i + 1) 0 = s.getD (k - i) 0 * b.getD i 0
      rw [Nat.add_sub_add_right]
      rfl
theorem trim_len_lt {u : List Int} {x : Int} (h : trimR (u ++ [x]) = u ++ [x]) : x ≠ 0 := fun e => by
  subst e
  rw [trim_zero] at h
  have := trim_len (v := u)
  rw [h, List.length_append] at this
  simp at this
  omega
def prodF (s b : List Int) (k : Nat) : D → D
  | .int i => .int (s.getD (k - i.toNat) 0 * b.getD i.toNat 0)
  | _ => .non
abbrev c__law_top : Cn := fun K w ds Ψ Ξ => ∃ (s b : List Int) (n : Nat), ds = [lI s, lI b, .int n] ∧ n ≤ s.length ∧ n ≤ 50 ∧ b.length ≤ 50 ∧ Big 1000 s ∧ Big 1000 b ∧ Ψ (.fz (lI (trimR (rowI n (conv b s)))))
theorem l__law_top : ∀ K w ds Ψ Ξ, c__law_top K w ds Ψ Ξ → ds.length = 3 := fun K w ds Ψ Ξ h => by
  obtain ⟨_, _, _, rfl, _⟩ := h
  rfl
theorem ok__law_top {P : Program} {w : World} {K : PySem.W.Frag} {mg : Str → Option Value} {base : Heap} {A : Ad} (T : Txt K mg A) : FnOk P w K mg base CX0 1 A._law_top A.fd__law_top ["series", "bottom", "many"] (SpD K AnyR c__law_top) := by
  refine Fun.ok T.F__law_top sc__law_top (fun vs H Q E h => spd_len (l__law_top) h) (fun cdv A' outer s H vs Q E hr h => ⟨_, (pss_cons (ps_set (i := 3) sc__law_top.nd rfl (.inl rfl) (pe_lst pa_nil))
        (pss_cons (ps_for PassesOwn.never rfl (pi_range1 (by rfl) T.b_range (pa_cons (pv 2) pa_nil)) (pg_name (i := 4) sc__law_top.nd rfl (.inr rfl)) (pss_one (ps_expr (pe_bm PySem.F.plainAttrs_list PySem.F.slot_list_append PySem.F.type_list_append mt_append (pv 3) (pa_cons (pe_callB (cr_sum rfl) (by rfl) T.b_sum (by decide +kernel) (pa_cons (pe_lc (own := [("i", 5)]) (by rfl) sc__law_top.nd (pi_range1 (by rfl) T.b_range (pa_cons (pe_callB (call_min2 rfl) (by rfl) T.b_min (by decide +kernel) (pa_cons (pe_op op_add (pv 4) pe_int) (pa_cons (pe_callB call_len_seq (by rfl) T.b_len (by decide +kernel) (pa_cons (pv 1) pa_nil)) pa_nil))) pa_nil)) (blkOk_by (own := [("i", 5)]) (N := ["series", "bottom", "many", "out", "k", "i"]) (sc := defScope s__law_top) (by decide +kernel)) (fun _ _ _ _ _ => (pg_name (i := 5) sc__law_top.nd rfl (.inl rfl))) (fun _ _ _ _ _ => pts_nil) (fun _ _ _ _ _ => (pe_op op_mulW (pe_ix (by exact (show IxR _ (rIxL K) from ix_list)) (pv 0) (pe_op op_sub (pv 4) (pv 5)) (fun _ _ => rfl)) (pe_ix (by exact (show IxR _ (rIxL K) from ix_list)) (pv 1) (pv 5) (fun _ _ => rfl))))) pa_nil)) pa_nil)))))
        (pss_cons (ps_for PassesOwn.never rfl (pi_range1 (by rfl) T.b_range (pa_cons (pv 2) pa_nil)) (pg_name (i := 4) sc__law_top.nd rfl (.inr rfl)) (pss_one (ps_if (PW.pt (pw_and (pt_cmpR op_gt (pe_callB call_len_seq (by rfl) T.b_len (by decide +kernel) (pa_cons (pv 3) pa_nil)) pe_int (nomark _)) (pw_and1 (pt_cmpR op_eq (pe_ix ix_list (pv 3) (pe_un un_neg pe_int) (fun _ _ => rfl)) pe_int (nomark _))))) (pss_one (ps_expr (pe_bm0 PySem.F.plainAttrs_list PySem.F.slot_list_pop PySem.F.type_list_pop mt_pop (pv 3)))) pss_nil)))
        (pss_one (ps_ret (pv 3)))))), ?_⟩)
  refine body_ok 3 (by decide) (l__law_top) h (fun Γ ds Ψ Ξ hK hX hF hc ke => ?_)
  subst hK
  obtain ⟨s', b, n, rfl, hns, hn, hb, bs, bb, hc⟩ := hc
  refine sw_seq (sw_asgB (eb_lst (aw_nil ⟨by decide, ?_⟩)))
  refine sw_seq (sw_forR (aw_cons (ew_var rfl (aw_nil ⟨_, rfl, by omega, fun k ρ => ∃ c4 : Option B, (∀ es, c4 ≠ some (.ow es)) ∧ ρ = [some (.fz (lI s')), some (.fz (lI b)), some (.fz (.int n)), some (.ow (.lst ((rowI k (conv b s')).map D.int))), c4, none], ⟨none, (fun es z => by cases z), rfl⟩, ?_, ?_⟩))))
  · rintro k ρ2 hk ⟨c4, hc4, rfl⟩
    rw [Int.toNat_natCast] at hk
    refine ⟨_, gd_name, ?_⟩
    refine sw_app rfl ?_
    walk_at "rd"
    rw [List.length_map]
    have em : (min ((k : Int) + 1) (b.length : Int)).toNat = min (k + 1) b.length := by omega
    refine ⟨by omega, ?_⟩
    rw [em]
    refine ⟨(fun es z => by cases z), by rw [rngD_len]; omega, prodF s' b k, fun x hx c => ?_, ?_⟩
    · obtain ⟨i, hi, rfl⟩ := rng_mem hx
      walk_at "rd"
      refine ⟨_, opv_ixIL rfl (by omega) (by omega), ?_⟩
      walk_at "rd"
      refine ⟨_, opv_ixIL rfl (by omega) (by omega), ?_⟩
      refine ⟨_, opv_intC (mwG (big_getD bs _) (big_getD bb _) (by decide)), rfl, ?_⟩
      have e : ((k : Int) - (i : Int)).toNat = k - i := by omega
      rw [e]
      rfl
    · have e : (rngD (min (k + 1) b.length)).map (prodF s' b k) = (List.range (min (k + 1) b.length)).map fun i => D.int (s'.getD (k - i) 0 * b.getD i 0) := by
        rw [rng_map]
        apply List.map_congr_left
        intro i hi
        show D.int (s'.getD (k - (i : Int).toNat) 0 * b.getD (i : Int).toNat 0) = _
        rw [Int.toNat_natCast]
      rw [e]
      walk_at "rd"
      rw [conv_sum]
      refine ⟨by rw [List.length_map, row_len]; omega, some (.fz (.int k)), (fun es z => by cases z), ?_⟩
      have e2 : (rowI (k + 1) (conv b s')).map D.int = (rowI k (conv b s')).map D.int ++ [D.int (conv b s' k)] := by
        unfold rowI
        rw [List.range_succ, List.map_append, List.map_append]
        rfl
      rw [e2]
      rfl
  · rintro ρ2 ⟨c4, hc4, rfl⟩
    rw [Int.toNat_natCast]
    refine sw_seq (sw_forR (aw_cons (ew_var rfl (aw_nil ⟨_, rfl, by omega, fun i ρ => ∃ (u : List Int) (c4 : Option B), trimR u = trimR (rowI n (conv b s')) ∧ (trimR u = u ∨ u.length + i ≤ n) ∧ ρ = [some (.fz (lI s')), some (.fz (lI b)), some (.fz (.int n)), some (.ow (.lst (u.map D.int))), c4, none], ⟨_, _, rfl, .inr (by rw [row_len]; exact Nat.le_refl _), rfl⟩, ?_, ?_⟩))))
    · rintro i ρ2 hi ⟨u, c4, hu, ho, rfl⟩
      refine ⟨_, gd_name, ?_⟩
      rcases List.eq_nil_or_concat u with rfl | ⟨u', x, rfl⟩
      · refine sw_if (tw_and (tw_test (ew_op (ew_lenO rfl rfl (ew_int ⟨_, opv_cmp, _, rfl, fun h1 => ?_, fun h1 => ?_⟩)))))
        · cases h1
        · exact ⟨(fun z => by cases z), fun _ => sw_next ⟨[], _, hu, .inl rfl, rfl⟩⟩
      · rw [List.concat_eq_append] at hu ho ⊢
        have hat : atI ((u' ++ [x]).map D.int) (-1) = some (.int x) := by
          rw [List.map_append]
          exact atI_last _ _
        refine sw_if (tw_and (tw_test (ew_op (ew_lenO rfl rfl (ew_int ⟨_, opv_cmp, _, rfl, fun h1 => ?_, fun h1 => ?_⟩)))))
        · refine tw_test (ew_op (ew_ixO rfl rfl (ew_neg (ew_int ⟨_, rfl, _, _, .int x, rfl, rfl, hat, ew_int ⟨_, opv_eq, _, rfl, fun h2 => ?_, fun h2 => ?_⟩⟩))))
          · have hx : x = 0 := of_decide_eq_true h2
            subst hx
            refine sw_drop (ew_pop0O (y := .int 0) rfl ?_ ?_)
            · rw [List.map_append, List.length_append]
              show ((u'.map D.int) ++ [D.int 0])[(u'.map D.int).length + 1 - 1]? = _
              rw [Nat.add_sub_cancel, List.getElem?_append_right (Nat.le_refl _), Nat.sub_self]
              rfl
            · refine ⟨u', some (.fz (.int (i : Int))), by rw [← hu, trim_zero], .inr ?_, ?_⟩
              · rcases ho with h | h
                · exact absurd rfl (trim_len_lt h)
                · rw [List.length_append] at h
                  have h : u'.length + 1 + i ≤ n := h
                  omega
              · rw [List.map_append]
                show ([_, _, _, some (B.ow (.lst ((u'.map D.int ++ [D.int 0]).dropLast))), _, _] : Dl.Env) = _
                rw [List.dropLast_concat]
          · exact sw_next ⟨u' ++ [x], _, hu, .inl (trim_snoc (of_decide_eq_false h2)), rfl⟩
        · exfalso
          have h1 := of_decide_eq_false h1
          simp at h1
    · rintro ρ2 ⟨u, c4, hu, ho, rfl⟩
      rw [Int.toNat_natCast] at ho
      have e : u = trimR (rowI n (conv b s')) := by
        rcases ho with h | h
        · rw [← hu, h]
        · have : u = [] := List.eq_nil_of_length_eq_zero (by omega)
          rw [← hu, this]
          rfl
      rw [e]
      refine sw_freeze (i := 3) rfl ?_
      exact sw_ret (ew_var rfl hc)
end Pf

namespace Pf
open PySem L2 Dl Sh
open Evl (Ex)
open Ry
local macro_rules | `(tactic| walk_at "r0") => `(tactic| with_reducible first
  | refine sw_seq ?_
  | refine ew_var rfl ?_
  | refine ew_int ?_
  | refine ew_bl ?_
  | refine ew_non ?_
  | refine ew_str ?_
  | refine aw_cons ?_
  | refine aw_nil ?_
  | refine sw_par ?_
  | refine sw_next ?_
  | refine sw_if ?_
  | refine sw_ret ?_
  | refine tw_not ?_
  | refine tw_and ?_
  | refine tw_or ?_
  | refine tw_test ?_
  | refine tw_B ?_
  | refine tw_tru rfl ?_
  | refine ew_andV ?_
  | refine ew_orV ?_
  | refine ew_notV ?_
  | refine ew_if ?_
  | refine ew_chain ?_
  | refine ew_isN ?_
  | refine ew_tup ?_
  | refine ew_lst ?_
  | refine ew_isiD isN_int rfl ?_
  | refine ew_isiD isN_bool rfl ?_
  | refine ew_isiD isN_tuple rfl ?_
  | refine ew_isiD isN_list rfl ?_
  | refine ew_isiD isN_str rfl ?_
  | refine ew_isi2D isN_list isN_tuple rfl ?_
  | refine ew_isi2D isN_tuple isN_list rfl ?_
  | refine ew_cb ?_
  | refine ew_neg ?_
  | refine ew_op ?_
  | refine ⟨_, opv_int, ?_⟩
  | refine ⟨_, opv_cmp, ?_⟩
  | refine ⟨_, opv_eq, ?_⟩
  | refine ⟨_, opv_ne, ?_⟩
  | refine ⟨_, opv_eqB, ?_⟩
  | refine ⟨_, opv_eqS, ?_⟩
  | refine ⟨_, cbv_abs, ?_⟩
  | refine ⟨_, cbv_max2, ?_⟩
  | refine ⟨_, cbv_min2, ?_⟩
  | refine pw_none ?_
  | refine pw_some ?_
  | refine ⟨_, cbv_int, ?_⟩
  | refine ⟨_, rfl, ?_⟩
  | refine ⟨_, _, rfl, ?_⟩
  | refine ⟨_, _, _, rfl, ?_⟩
  | refine ⟨_, _, _, _, rfl, ?_⟩
  | refine br_t ?_
  | refine br_f ?_
  | refine ⟨dt_int, ?_⟩
  | refine ⟨dt_bl, ?_⟩
  | refine ⟨dt_str, ?_⟩
  | refine ⟨dt_non, ?_⟩
  | refine ⟨dt_tup, ?_⟩
  | refine ⟨dt_lst, ?_⟩
  | refine sw_asg ?_
  | refine sw_drop ?_)
local macro_rules | `(tactic| walk_at "r1") => `(tactic| first
  | ((with_reducible refine ew_tupL ?hK ?_); (case hK => rfl))
  | ((with_reducible refine ew_catT ?hK ?_); (case hK => rfl))
  | ((with_reducible refine ew_repT ?hK ?_); (case hK => rfl))
  | ((with_reducible refine ew_of_eb (eb_listL ?hK ?_)); (case hK => rfl))
  | ((with_reducible refine ew_of_eb (eb_cutL ?hK ?_)); (case hK => rfl))
  | walk_at "r0"
  | ((with_reducible refine ew_of_eb (eb_mapT ?hV ?hK ?_)); (case hK => rfl); (case hV => rfl))
  | ((with_reducible refine ew_of_eb (eb_mapL ?hV ?hK ?_)); (case hK => rfl); (case hV => rfl))
  | ((with_reducible refine ew_of_eb (eb_mapR ?hV ?_)); (case hV => rfl))
  | ((with_reducible refine ew_callP ?hK trivial ?_); (case hK => rfl))
  | ((with_reducible refine ew_callW ?hK trivial ?_); (case hK => rfl))
  | ((with_reducible refine ew_callH ?hK trivial ?_); (case hK => rfl))
  | ((with_reducible refine ew_callR ?hK ?hF ?_); (case hK => rfl); (case hF => assumption))
  | ((with_reducible refine len_ok ?hK ?_); (case hK => rfl))
  | ((with_reducible refine ew_notT ?hK ?_); (case hK => rfl))
  | ((with_reducible refine ew_cutT ?hK ?_); (case hK => rfl))
  | ((with_reducible refine ⟨(?hK : Dt _ _), ?_⟩); (case hK => assumption))
  | ((with_reducible refine sw_unp2 ?hK ?hn ?_); (case hK => rfl); (case hn => rfl)))
local macro_rules | `(tactic| walk_at "side") => `(tactic| first
  | exact Or.inr (by decide)
  | exact Or.inl (by decide)
  | exact ⟨by decide, by decide⟩
  | exact ⟨by decide, by decide, by decide⟩
  | decide
  | (dsimp only; decide)
  | exact mw (by assumption) (by assumption))
local macro_rules | `(tactic| walk_at "r2") => `(tactic| first
  | walk_at "r1"
  | ((with_reducible refine ⟨_, opv_intC ?hC, ?_⟩); (case hC => walk_at "side"))
  | ((with_reducible refine ⟨_, cbv_lenL ?hK, ?_⟩); (case hK => rfl))
  | ((with_reducible refine ⟨_, cbv_allM ?hK, ?_⟩); (case hK => rfl))
  | ((with_reducible refine ⟨_, cbv_anyM ?hK, ?_⟩); (case hK => rfl))
  | ((with_reducible refine ⟨_, cbv_sumM ?hK, ?_⟩); (case hK => rfl))
  | ((with_reducible refine ⟨_, cbv_lenT ?hK, ?_⟩); (case hK => rfl))
  | (with_reducible refine ⟨_, opv_ixT (by with_unfolding_all rfl) (by with_unfolding_all rfl), ?_⟩)
  | refine br_t ?_
  | refine br_f ?_)
local macro_rules | `(tactic| walk_at "rd") => `(tactic| repeat (walk_at "r2"))
local macro_rules | `(tactic| walk_at "rs") => `(tactic| repeat ((fail_if_success (with_reducible refine sw_isif ?_)); walk_at "r2"))
local macro_rules | `(tactic| walk_at "nf") => `(tactic| (try simp only [List.set_cons_zero, List.set_cons_succ, Dl.sets, Dl.asD]))
local macro_rules | `(tactic| walk_at "ru") => `(tactic| repeat ((fail_if_success (with_reducible refine sw_seq ?_)); walk_at "r2"))

/-- the terms from -n to n -/
def winL (f S : List Int) (n : Nat) : List Int := (List.range (2 * n + 1)).map fun (j : Nat) => Rw.sq f S ((j : Int) - (n : Int))
/-- terms from a place on -/
def segL (f S : List Int) (k : Int) (m : Nat) : List Int := (List.range m).map fun (j : Nat) => Rw.sq f S (k + (j : Int))
theorem seg_len {f S : List Int} {k : Int} {m : Nat} : (segL f S k m).length = m := by
  unfold segL
  rw [List.length_map, List.length_range]
theorem seg_get {f S : List Int} {k : Int} {m j : Nat} (h : j < m) : (segL f S k m).getD j 0 = Rw.sq f S (k + (j : Int)) := by
  unfold segL
  rw [List.getD_eq_getElem?_getD, List.getElem?_map, List.getElem?_range h]
  rfl
theorem seg_succ {f S : List Int} {k : Int} {m : Nat} : segL f S k (m + 1) = segL f S k m ++ [Rw.sq f S (k + (m : Int))] := by
  unfold segL
  rw [List.range_succ, List.map_append]
  rfl
theorem seg_cons {f S : List Int} {k : Int} {m : Nat} : segL f S (k - 1) (m + 1) = Rw.sq f S (k - 1) :: segL f S k m := by
  unfold segL
  rw [List.range_succ_eq_map, List.map_cons, List.map_map]
  congr 1
  · rw [Int.natCast_zero, Int.add_zero]
  · apply List.map_congr_left
    intro j _
    show Rw.sq f S (k - 1 + ((j + 1 : Nat) : Int)) = _
    rw [show k - 1 + ((j + 1 : Nat) : Int) = k + (j : Int) by omega]
theorem seg_first {f S : List Int} (hf : FOk f) (hl : S.length = f.length) : segL f S 0 f.length = S := by
  apply List.ext_getElem?
  intro i
  unfold segL
  rw [List.getElem?_map]
  by_cases hi : i < f.length
  · rw [List.getElem?_range hi, List.getElem?_eq_getElem (show i < S.length by omega)]
    show some (Rw.sq f S (0 + (i : Int))) = some S[i]
    rw [Int.zero_add, ← Rw.sq_first hf.unit hl hf.ne hi, List.getD_eq_getElem?_getD, List.getElem?_eq_getElem (show i < S.length by omega)]
    rfl
  · rw [List.getElem?_eq_none (by rw [List.length_range]; omega), List.getElem?_eq_none (by omega)]
    rfl
theorem seg_cat {f S : List Int} {k : Int} {m n : Nat} : segL f S k m ++ segL f S (k + (m : Int)) n = segL f S k (m + n) := by
  unfold segL
  rw [List.range_add, List.map_append, List.map_map]
  congr 1
  apply List.map_congr_left
  intro j _
  show Rw.sq f S (k + (m : Int) + (j : Int)) = Rw.sq f S (k + ((m + j : Nat) : Int))
  rw [show k + (m : Int) + (j : Int) = k + ((m + j : Nat) : Int) by omega]
theorem seg_take {f S : List Int} {k : Int} {m n : Nat} (h : n ≤ m) : (segL f S k m).take n = segL f S k n := by
  unfold segL
  rw [← List.map_take, List.take_range, Nat.min_eq_left h]
theorem win_seg {f S : List Int} {n : Nat} : winL f S n = segL f S (-(n : Int)) (2 * n + 1) := by
  unfold winL segL
  apply List.map_congr_left
  intro j _
  rw [show (j : Int) - (n : Int) = -(n : Int) + (j : Int) by omega]
theorem win_len {f S : List Int} {n : Nat} : (winL f S n).length = 2 * n + 1 := by
  rw [win_seg, seg_len]
theorem win_get {f S : List Int} {n : Nat} {k : Int} (h0 : -(n : Int) ≤ k) (h1 : k ≤ n) : (winL f S n).getD ((n : Int) + k).toNat 0 = Rw.sq f S k := by
  rw [win_seg, seg_get (by omega)]
  congr 1
  omega
theorem seg_big {f S : List Int} {b : Nat} (hf : FOk f) (hS : Big b S) {k : Int} {m c : Nat} (h : ∀ j : Nat, j < m → b + 26 * (k + (j : Int)).natAbs ≤ c) : Big c (segL f S k m) := fun x hx => by
  obtain ⟨j, hj, rfl⟩ := List.mem_map.mp hx
  exact pow_up (sq_big hf hS _) (h j (List.mem_range.mp hj))
/-- the sum of factors times terms -/
theorem ev_sum {w : Int → Int} : ∀ {f : List Int} {k : Int}, ((List.range f.length).map fun (i : Nat) => f.getD i 0 * w (k + (i : Int))).sum = Rw.ev f w k
  | [], k => rfl
  | x :: f, k => by
    rw [List.length_cons, List.range_succ_eq_map, List.map_cons, List.sum_cons, List.map_map]
    show x * w (k + ((0 : Nat) : Int)) + _ = x * w k + Rw.ev f w (k + 1)
    rw [Int.natCast_zero, Int.add_zero, ← ev_sum (w := w) (f := f) (k := k + 1)]
    congr 2
    apply List.map_congr_left
    intro i _
    show f.getD i 0 * w (k + ((i + 1 : Nat) : Int)) = f.getD i 0 * w (k + 1 + (i : Int))
    rw [show k + ((i + 1 : Nat) : Int) = k + 1 + (i : Int) by omega]
theorem ev_head {f : List Int} {w : Int → Int} {k : Int} (h : f ≠ []) : Rw.ev f w k = f.headD 0 * w k + Rw.ev f.tail w (k + 1) := by
  cases f with
  | nil => exact absurd rfl h
  | cons a f => rfl
def stepF (f U : List Int) (k : Nat) : D → D
  | .int i => .int (f.getD i.toNat 0 * U.getD (k + i.toNat) 0)
  | _ => .non
def backF (f U : List Int) : D → D
  | .int i => .int (f.getD i.toNat 0 * U.getD (i.toNat - 1) 0)
  | _ => .non
abbrev c__law_window : Cn := fun K w ds Ψ Ξ => ∃ (f S : List Int) (n : Nat), ds = [rwD f S, .int n] ∧ ROk f S ∧ n ≤ 50 ∧ Ψ (.fz (lI (winL f S n)))
theorem l__law_window : ∀ K w ds Ψ Ξ, c__law_window K w ds Ψ Ξ → ds.length = 2 := fun K w ds Ψ Ξ h => by
  obtain ⟨_, _, _, rfl, _⟩ := h
  rfl
theorem ok__law_window {P : Program} {w : World} {K : PySem.W.Frag} {mg : Str → Option Value} {base : Heap} {A : Ad} (T : Txt K mg A) : FnOk P w K mg base CX0 1 A._law_window A.fd__law_window ["row", "far"] (SpD K AnyR c__law_window) := by
  refine Fun.ok T.F__law_window sc__law_window (fun vs H Q E h => spd_len (l__law_window) h) (fun cdv A' outer s H vs Q E hr h => ⟨_, (pss_cons (ps_set (i := 2) sc__law_window.nd rfl (.inr rfl) (pe_ix ix_list (pv 0) pe_int (fun _ _ => rfl)))
        (pss_cons (ps_set (i := 3) sc__law_window.nd rfl (.inl rfl) (pe_callB call_len_seq (by rfl) T.b_len (by decide +kernel) (pa_cons (pv 2) pa_nil)))
        (pss_cons (ps_set (i := 4) sc__law_window.nd rfl (.inr rfl) (pe_callTy call_list_of (by rfl) T.b_list (by decide +kernel) (pa_cons (pe_ix ix_list (pv 0) pe_int (fun _ _ => rfl)) pa_nil)))
        (pss_cons (ps_for PassesOwn.never rfl (pi_range1 (by rfl) T.b_range (pa_cons (pe_op op_add (pv 1) pe_int) pa_nil)) (pg_name (i := 5) sc__law_window.nd rfl (.inr rfl)) (pss_one (ps_expr (pe_bm PySem.F.plainAttrs_list PySem.F.slot_list_append PySem.F.type_list_append mt_append (pv 4) (pa_cons (pe_callB (cr_sum rfl) (by rfl) T.b_sum (by decide +kernel) (pa_cons (pe_lc (own := [("i", 6)]) (by rfl) sc__law_window.nd (pi_range1 (by rfl) T.b_range (pa_cons (pv 3) pa_nil)) (blkOk_by (own := [("i", 6)]) (N := ["row", "far", "factors", "d", "ahead", "k", "i", "back", "rest"]) (sc := defScope s__law_window) (by decide +kernel)) (fun _ _ _ _ _ => (pg_name (i := 6) sc__law_window.nd rfl (.inl rfl))) (fun _ _ _ _ _ => pts_nil) (fun _ _ _ _ _ => (pe_op op_mulW (pe_ix (by exact (show IxR _ (rIxL K) from ix_list)) (pv 2) (pv 6) (fun _ _ => rfl)) (pe_ix (by exact (show IxR _ (rIxL K) from ix_list)) (pv 4) (pe_op op_add (pv 5) (pv 6)) (fun _ _ => rfl))))) pa_nil)) pa_nil)))))
        (pss_cons (ps_set (i := 7) sc__law_window.nd rfl (.inr rfl) (pe_callTy call_list_of (by rfl) T.b_list (by decide +kernel) (pa_cons (pe_ix ix_list (pv 0) pe_int (fun _ _ => rfl)) pa_nil)))
        (pss_cons (ps_for PassesOwn.never rfl (pi_range1 (by rfl) T.b_range (pa_cons (pv 1) pa_nil)) (pg_name (i := 5) sc__law_window.nd rfl (.inr rfl)) (pss_cons (ps_set (i := 8) sc__law_window.nd rfl (.inl rfl) (pe_op op_sub (pe_ix ix_list (pv 7) (pe_op op_sub (pv 3) pe_int) (fun _ _ => rfl)) (pe_callB (cr_sum rfl) (by rfl) T.b_sum (by decide +kernel) (pa_cons (pe_lc (own := [("i", 6)]) (by rfl) sc__law_window.nd (pi_range2 (by rfl) T.b_range (pa_cons pe_int (pa_cons (pv 3) pa_nil))) (blkOk_by (own := [("i", 6)]) (N := ["row", "far", "factors", "d", "ahead", "k", "i", "back", "rest"]) (sc := defScope s__law_window) (by decide +kernel)) (fun _ _ _ _ _ => (pg_name (i := 6) sc__law_window.nd rfl (.inl rfl))) (fun _ _ _ _ _ => pts_nil) (fun _ _ _ _ _ => (pe_op op_mulW (pe_ix (by exact (show IxR _ (rIxL K) from ix_list)) (pv 2) (pv 6) (fun _ _ => rfl)) (pe_ix (by exact (show IxR _ (rIxL K) from ix_list)) (pv 7) (pe_op op_sub (pv 6) pe_int) (fun _ _ => rfl))))) pa_nil))))
        (pss_one (ps_expr (pe_bm PySem.F.plainAttrs_list PySem.F.slot_list_insert PySem.F.type_list_insert mt_insert (pv 7) (pa_cons pe_int (pa_cons (pe_op op_mulW (pe_ix ix_list (pv 2) pe_int (fun _ _ => rfl)) (pv 8)) pa_nil)))))))
        (pss_one (ps_ret (pe_op op_cat (pe_slice sl_list (pv 7) po_none (po_some (pv 1))) (pe_slice sl_list (pv 4) po_none (po_some (pe_op op_add (pv 1) pe_int)))))))))))), ?_⟩)
  refine body_ok 2 (by decide) (l__law_window) h (fun Γ ds Ψ Ξ hK hX hF hc ke => ?_)
  subst hK
  obtain ⟨f, S, n, rfl, hr, hn, hc⟩ := hc
  have h8 := hr.fok.len
  have hp := List.length_pos_iff.mpr hr.fok.ne
  have hrec := Rw.sq_rec hr.fok.unit hr.l hr.fok.ne
  have hat0 : atI [lI f, lI S] 0 = some (lI f) := rfl
  have hat1 : atI [lI f, lI S] 1 = some (lI S) := rfl
  refine sw_seq (sw_asg (ew_op (ew_var rfl (ew_int ⟨_, opv_ixL rfl hat0, ?_⟩))))
  refine sw_seq (sw_asg (ew_cb (aw_cons (ew_var rfl (aw_nil ⟨_, cbv_lenL rfl, ?_⟩)))))
  rw [List.length_map]
  refine sw_seq (sw_asgB (eb_listL rfl (ew_op (ew_var rfl (ew_int ⟨_, opv_ixL rfl hat1, _, .inl rfl, ?_⟩)))))
  refine sw_seq (sw_forR (aw_cons (ew_op (ew_var rfl (ew_int ⟨_, opv_int, aw_nil ⟨_, rfl, by omega, fun k ρ => ∃ c5 : Option B, ρ = [some (.fz (rwD f S)), some (.fz (.int n)), some (.fz (lI f)), some (.fz (.int f.length)), some (.ow (.lst ((segL f S 0 (f.length + k)).map D.int))), c5, none, none, none], ⟨none, ?_⟩, ?_, ?_⟩⟩)))))
  · rw [Nat.add_zero, seg_first hr.fok hr.l]
    rfl
  · rintro k ρ2 hk ⟨c5, rfl⟩
    have hk : k < n + 1 := by omega
    refine ⟨_, gd_name, ?_⟩
    have hbg : Big 100000 (segL f S 0 (f.length + k)) := seg_big hr.fok hr.b fun j hj => by omega
    refine sw_app rfl ?_
    walk_at "rd"
    refine ⟨by omega, ?_⟩
    rw [Int.toNat_natCast]
    refine ⟨(fun es z => by cases z), by rw [rngD_len]; omega, stepF f (segL f S 0 (f.length + k)) k, fun x hx c => ?_, ?_⟩
    · obtain ⟨i, hi, rfl⟩ := rng_mem hx
      refine ew_op (ew_op (ew_var rfl (ew_var rfl ⟨_, opv_ixIL rfl (by omega) (by omega), ?_⟩)))
      refine ew_ixIO rfl rfl ?_
      walk_at "rd"
      refine ⟨rfl, by omega, by rw [seg_len]; omega, ?_⟩
      refine ⟨_, opv_intC (mwG (big_getD hr.fok.big _) (big_getD hbg _) (by decide)), rfl, ?_⟩
      have e : ((k : Int) + (i : Int)).toNat = k + i := by omega
      rw [e]
      rfl
    · have e : (rngD f.length).map (stepF f (segL f S 0 (f.length + k)) k) = (List.range f.length).map fun (i : Nat) => D.int (f.getD i 0 * Rw.sq f S ((k : Int) + (i : Int))) := by
        rw [rng_map]
        apply List.map_congr_left
        intro i hi
        have hi := List.mem_range.mp hi
        show D.int (f.getD (i : Int).toNat 0 * (segL f S 0 (f.length + k)).getD (k + (i : Int).toNat) 0) = _
        rw [Int.toNat_natCast, seg_get (by omega), show (0 : Int) + ((k + i : Nat) : Int) = (k : Int) + (i : Int) by omega]
      rw [e]
      walk_at "rd"
      rw [ev_sum (w := Rw.sq f S), ← hrec k]
      refine ⟨by rw [List.length_map, seg_len]; omega, some (.fz (.int k)), ?_⟩
      have e2 : segL f S 0 (f.length + (k + 1)) = segL f S 0 (f.length + k) ++ [Rw.sq f S ((k : Int) + (f.length : Int))] := by
        rw [← Nat.add_assoc, seg_succ, show (0 : Int) + ((f.length + k : Nat) : Int) = (k : Int) + (f.length : Int) by omega]
      rw [e2, List.map_append (f := D.int)]
      rfl
  · rintro ρ2 ⟨c5, rfl⟩
    have en1 : ((n : Int) + 1).toNat = n + 1 := by omega
    rw [en1]
    refine sw_seq (sw_asgB (eb_listL rfl (ew_op (ew_var rfl (ew_int ⟨_, opv_ixL rfl hat1, _, .inl rfl, ?_⟩)))))
    refine sw_seq (sw_forR (aw_cons (ew_var rfl (aw_nil ⟨_, rfl, by omega, fun k ρ => ∃ c5 c8 : Option B, ρ = [some (.fz (rwD f S)), some (.fz (.int n)), some (.fz (lI f)), some (.fz (.int f.length)), some (.ow (.lst ((segL f S 0 (f.length + (n + 1))).map D.int))), c5, none, some (.ow (.lst ((segL f S (-(k : Int)) (f.length + k)).map D.int))), c8], ⟨c5, none, ?_⟩, ?_, ?_⟩))))
    · have e : segL f S (-((0 : Nat) : Int)) (f.length + 0) = S := seg_first hr.fok hr.l
      rw [e]
      rfl
    · rintro k ρ2 hk ⟨c5, c8, rfl⟩
      rw [Int.toNat_natCast] at hk
      refine ⟨_, gd_name, ?_⟩
      have hbg : Big 100000 (segL f S (-(k : Int)) (f.length + k)) := seg_big hr.fok hr.b fun j hj => by omega
      refine sw_seq (sw_asg (ew_op ?_))
      refine ew_ixIO rfl rfl ?_
      walk_at "rd"
      refine ⟨rfl, by omega, by rw [seg_len]; omega, ?_⟩
      refine ew_cb (aw_cons (ew_of_eb (eb_lcR2 ?_)))
      walk_at "rd"
      have en : ((f.length : Int) - 1).toNat = f.length - 1 := by omega
      refine ⟨by omega, ?_⟩
      rw [en]
      refine Maps.comp ⟨(fun es z => by cases z), by rw [rngD2_len]; omega, backF f (segL f S (-(k : Int)) (f.length + k)), fun x hx c => ?_, ?_⟩
      · unfold rngD2 at hx
        obtain ⟨i, hi, rfl⟩ := List.mem_map.mp hx
        have hi := List.mem_range.mp hi
        refine ew_op (ew_op (ew_var rfl (ew_var rfl ⟨_, opv_ixIL rfl (by omega) (by omega), ?_⟩)))
        refine ew_ixIO rfl rfl ?_
        walk_at "rd"
        refine ⟨rfl, by omega, by rw [seg_len]; omega, ?_⟩
        refine ⟨_, opv_intC (mwG (big_getD hr.fok.big _) (big_getD hbg _) (by decide)), rfl, ?_⟩
        have e : ((1 : Int) + (i : Int) - 1).toNat = ((1 : Int) + (i : Int)).toNat - 1 := by omega
        rw [e]
        rfl
      · have ht : f.tail.length = f.length - 1 := List.length_tail
        have e : (rngD2 1 (f.length - 1)).map (backF f (segL f S (-(k : Int)) (f.length + k))) = (List.range f.tail.length).map fun (i : Nat) => D.int (f.tail.getD i 0 * Rw.sq f S (-(k : Int) + (i : Int))) := by
          unfold rngD2
          rw [List.map_map, ht]
          apply List.map_congr_left
          intro i hi
          have hi := List.mem_range.mp hi
          show D.int (f.getD ((1 : Int) + (i : Int)).toNat 0 * (segL f S (-(k : Int)) (f.length + k)).getD (((1 : Int) + (i : Int)).toNat - 1) 0) = _
          have e1 : ((1 : Int) + (i : Int)).toNat = i + 1 := by omega
          have e2 : f.getD (i + 1) 0 = f.tail.getD i 0 := by cases f <;> rfl
          rw [e1, Nat.add_sub_cancel, seg_get (by omega), e2]
        rw [e]
        refine aw_nil ⟨_, cbv_sumM rfl, _, opv_int, ?_⟩
        rw [ev_sum (w := Rw.sq f S), seg_get (by omega)]
        have hr1 := hrec (-(k : Int) - 1)
        have hev : Rw.ev f (Rw.sq f S) (-(k : Int) - 1) = f.headD 0 * Rw.sq f S (-(k : Int) - 1) + Rw.ev f.tail (Rw.sq f S) (-(k : Int)) := by
          rw [ev_head hr.fok.ne, show -(k : Int) - 1 + 1 = -(k : Int) by omega]
        rw [hev] at hr1
        have er : Rw.sq f S (-(k : Int) + ((f.length - 1 : Nat) : Int)) - Rw.ev f.tail (Rw.sq f S) (-(k : Int)) = f.headD 0 * Rw.sq f S (-(k : Int) - 1) := by
          rw [show -(k : Int) + ((f.length - 1 : Nat) : Int) = -(k : Int) - 1 + (f.length : Int) by omega, hr1]
          omega
        rw [er]
        have hb2 : (f.headD 0 * Rw.sq f S (-(k : Int) - 1)).natAbs < 2 ^ 100000 := by
          rw [Int.natAbs_mul, unit_abs hr.fok.unit, Nat.one_mul]
          exact pow_up (sq_big hr.fok hr.b _) (by omega)
        refine sw_ins rfl ?_
        refine aw_cons (ew_int (aw_cons (ew_op ?_)))
        refine ew_op (ew_var rfl (ew_int ⟨_, opv_ixL rfl (at_head hr.fok.ne), ?_⟩))
        refine ew_var rfl ⟨_, opv_intC (mwG (big_headD hr.fok.big) hb2 (by decide)), ?_⟩
        refine aw_nil ⟨0, _, (segL f S (-(k : Int)) (f.length + k)).map D.int, rfl, rfl, by rw [List.length_map, seg_len]; omega, by decide, ?_⟩
        refine ⟨some (.fz (.int k)), some (.fz (.int (f.headD 0 * Rw.sq f S (-(k : Int) - 1)))), ?_⟩
        have e5 : f.headD 0 * (f.headD 0 * Rw.sq f S (-(k : Int) - 1)) = Rw.sq f S (-(k : Int) - 1) := by
          rw [← Int.mul_assoc, hr.fok.unit, Int.one_mul]
        have e6 : segL f S (-((k + 1 : Nat) : Int)) (f.length + (k + 1)) = Rw.sq f S (-(k : Int) - 1) :: segL f S (-(k : Int)) (f.length + k) := by
          rw [← Nat.add_assoc, show -((k + 1 : Nat) : Int) = -(k : Int) - 1 by omega, seg_cons]
        rw [e5, e6]
        rfl
    · rintro ρ2 ⟨c5, c8, rfl⟩
      rw [Int.toNat_natCast]
      refine sw_ret (ew_of_eb (eb_catE (eb_cutO rfl rfl (pw_none (pw_some (ew_var rfl ⟨_, rfl, _, rfl, _, rfl, fun c => ?_⟩))))))
      refine eb_cutO rfl rfl (pw_none (pw_some (ew_op (ew_var rfl (ew_int ⟨_, opv_int, _, rfl, _, rfl, _, rfl, ?_⟩)))))
      have ec1 : cutD ((segL f S (-(n : Int)) (f.length + n)).map D.int) none (some (n : Int)) = (segL f S (-(n : Int)) n).map D.int := by
        rw [cut_to (by rw [seg_len]; omega), seg_take (by omega)]
      have ec2 : cutD ((segL f S 0 (f.length + (n + 1))).map D.int) none (some ((n : Int) + 1)) = (segL f S 0 (n + 1)).map D.int := by
        have := cut_to (row := segL f S 0 (f.length + (n + 1))) (k := n + 1) (by rw [seg_len]; omega)
        rw [seg_take (by omega)] at this
        exact this
      rw [ec1, ec2]
      refine ⟨by rw [List.length_map, List.length_map, seg_len, seg_len]; omega, ?_⟩
      have ew : (segL f S (-(n : Int)) n).map D.int ++ (segL f S 0 (n + 1)).map D.int = (winL f S n).map D.int := by
        have := seg_cat (f := f) (S := S) (k := -(n : Int)) (m := n) (n := n + 1)
        rw [show -(n : Int) + (n : Int) = 0 by omega] at this
        rw [← List.map_append, this, win_seg, show n + (n + 1) = 2 * n + 1 by omega]
      rw [ew]
      exact hc
end Pf


namespace Pf
open PySem L2 Dl Sh
open Evl (Ex)
open Ry
local macro_rules | `(tactic| walk_at "r0") => `(tactic| with_reducible first
  | refine sw_seq ?_
  | refine ew_var rfl ?_
  | refine ew_int ?_
  | refine ew_bl ?_
  | refine ew_non ?_
  | refine ew_str ?_
  | refine aw_cons ?_
  | refine aw_nil ?_
  | refine sw_par ?_
  | refine sw_next ?_
  | refine sw_if ?_
  | refine sw_ret ?_
  | refine tw_not ?_
  | refine tw_and ?_
  | refine tw_or ?_
  | refine tw_test ?_
  | refine tw_B ?_
  | refine tw_tru rfl ?_
  | refine ew_andV ?_
  | refine ew_orV ?_
  | refine ew_notV ?_
  | refine ew_if ?_
  | refine ew_chain ?_
  | refine ew_isN ?_
  | refine ew_tup ?_
  | refine ew_lst ?_
  | refine ew_isiD isN_int rfl ?_
  | refine ew_isiD isN_bool rfl ?_
  | refine ew_isiD isN_tuple rfl ?_
  | refine ew_isiD isN_list rfl ?_
  | refine ew_isiD isN_str rfl ?_
  | refine ew_isi2D isN_list isN_tuple rfl ?_
  | refine ew_isi2D isN_tuple isN_list rfl ?_
  | refine ew_cb ?_
  | refine ew_neg ?_
  | refine ew_op ?_
  | refine ⟨_, opv_int, ?_⟩
  | refine ⟨_, opv_cmp, ?_⟩
  | refine ⟨_, opv_eq, ?_⟩
  | refine ⟨_, opv_ne, ?_⟩
  | refine ⟨_, opv_eqB, ?_⟩
  | refine ⟨_, opv_eqS, ?_⟩
  | refine ⟨_, cbv_abs, ?_⟩
  | refine ⟨_, cbv_max2, ?_⟩
  | refine ⟨_, cbv_min2, ?_⟩
  | refine pw_none ?_
  | refine pw_some ?_
  | refine ⟨_, cbv_int, ?_⟩
  | refine ⟨_, rfl, ?_⟩
  | refine ⟨_, _, rfl, ?_⟩
  | refine ⟨_, _, _, rfl, ?_⟩
  | refine ⟨_, _, _, _, rfl, ?_⟩
  | refine br_t ?_
  | refine br_f ?_
  | refine ⟨dt_int, ?_⟩
  | refine ⟨dt_bl, ?_⟩
  | refine ⟨dt_str, ?_⟩
  | refine ⟨dt_non, ?_⟩
  | refine ⟨dt_tup, ?_⟩
  | refine ⟨dt_lst, ?_⟩
  | refine sw_asg ?_
  | refine sw_drop ?_)
local macro_rules | `(tactic| walk_at "r1") => `(tactic| first
  | ((with_reducible refine ew_tupL ?hK ?_); (case hK => rfl))
  | ((with_reducible refine ew_catT ?hK ?_); (case hK => rfl))
  | ((with_reducible refine ew_repT ?hK ?_); (case hK => rfl))
  | ((with_reducible refine ew_of_eb (eb_listL ?hK ?_)); (case hK => rfl))
  | ((with_reducible refine ew_of_eb (eb_cutL ?hK ?_)); (case hK => rfl))
  | walk_at "r0"
  | ((with_reducible refine ew_of_eb (eb_mapT ?hV ?hK ?_)); (case hK => rfl); (case hV => rfl))
  | ((with_reducible refine ew_of_eb (eb_mapL ?hV ?hK ?_)); (case hK => rfl); (case hV => rfl))
  | ((with_reducible refine ew_of_eb (eb_mapR ?hV ?_)); (case hV => rfl))
  | ((with_reducible refine ew_callP ?hK trivial ?_); (case hK => rfl))
  | ((with_reducible refine ew_callW ?hK trivial ?_); (case hK => rfl))
  | ((with_reducible refine ew_callH ?hK trivial ?_); (case hK => rfl))
  | ((with_reducible refine ew_callR ?hK ?hF ?_); (case hK => rfl); (case hF => assumption))
  | ((with_reducible refine len_ok ?hK ?_); (case hK => rfl))
  | ((with_reducible refine ew_notT ?hK ?_); (case hK => rfl))
  | ((with_reducible refine ew_cutT ?hK ?_); (case hK => rfl))
  | ((with_reducible refine ⟨(?hK : Dt _ _), ?_⟩); (case hK => assumption))
  | ((with_reducible refine sw_unp2 ?hK ?hn ?_); (case hK => rfl); (case hn => rfl)))
local macro_rules | `(tactic| walk_at "side") => `(tactic| first
  | exact Or.inr (by decide)
  | exact Or.inl (by decide)
  | exact ⟨by decide, by decide⟩
  | exact ⟨by decide, by decide, by decide⟩
  | decide
  | (dsimp only; decide)
  | exact mw (by assumption) (by assumption))
local macro_rules | `(tactic| walk_at "r2") => `(tactic| first
  | walk_at "r1"
  | ((with_reducible refine ⟨_, opv_intC ?hC, ?_⟩); (case hC => walk_at "side"))
  | ((with_reducible refine ⟨_, cbv_lenL ?hK, ?_⟩); (case hK => rfl))
  | ((with_reducible refine ⟨_, cbv_allM ?hK, ?_⟩); (case hK => rfl))
  | ((with_reducible refine ⟨_, cbv_anyM ?hK, ?_⟩); (case hK => rfl))
  | ((with_reducible refine ⟨_, cbv_sumM ?hK, ?_⟩); (case hK => rfl))
  | ((with_reducible refine ⟨_, cbv_lenT ?hK, ?_⟩); (case hK => rfl))
  | (with_reducible refine ⟨_, opv_ixT (by with_unfolding_all rfl) (by with_unfolding_all rfl), ?_⟩)
  | refine br_t ?_
  | refine br_f ?_)
local macro_rules | `(tactic| walk_at "rd") => `(tactic| repeat (walk_at "r2"))
local macro_rules | `(tactic| walk_at "rs") => `(tactic| repeat ((fail_if_success (with_reducible refine sw_isif ?_)); walk_at "r2"))
local macro_rules | `(tactic| walk_at "nf") => `(tactic| (try simp only [List.set_cons_zero, List.set_cons_succ, Dl.sets, Dl.asD]))
local macro_rules | `(tactic| walk_at "ru") => `(tactic| repeat ((fail_if_success (with_reducible refine sw_seq ?_)); walk_at "r2"))

abbrev c__law_turned : Cn := fun K w ds Ψ Ξ => ∃ (f S : List Int) (n : Nat), ds = [rwD f S, lI (winL f S n), .int n] ∧ ROk f S ∧ f.length ≤ n ∧ n ≤ 50 ∧ Ψ (.fz (.lst [lI (turnF f), lI (bterms f S f.length)]))
def winF (f S : List Int) (n : Nat) : D → D
  | .int k => .int (Rw.sq f S (-k))
  | _ => .non
theorem l__law_turned : ∀ K w ds Ψ Ξ, c__law_turned K w ds Ψ Ξ → ds.length = 3 := fun K w ds Ψ Ξ h => by
  obtain ⟨_, _, _, rfl, _⟩ := h
  rfl
theorem ok__law_turned {P : Program} {w : World} {K : PySem.W.Frag} {mg : Str → Option Value} {base : Heap} {A : Ad} (T : Txt K mg A) : FnOk P w K mg base CX0 1 A._law_turned A.fd__law_turned ["row", "window", "far"] (SpD K AnyR c__law_turned) := by
  refine Fun.ok T.F__law_turned sc__law_turned (fun vs H Q E h => spd_len (l__law_turned) h) (fun cdv A' outer s H vs Q E hr h => ⟨_, (pss_cons (ps_set (i := 3) sc__law_turned.nd rfl (.inl rfl) (pe_ix ix_list (pv 0) pe_int (fun _ _ => rfl)))
        (pss_cons (ps_set (i := 4) sc__law_turned.nd rfl (.inl rfl) (pe_callB call_len_seq (by rfl) T.b_len (by decide +kernel) (pa_cons (pv 3) pa_nil)))
        (pss_cons (ps_set (i := 5) sc__law_turned.nd rfl (.inl rfl) (pe_lst (pa_cons (pe_ix ix_list (pv 3) pe_int (fun _ _ => rfl)) pa_nil)))
        (pss_cons (ps_for PassesOwn.never rfl (pi_range3 (by rfl) T.b_range (pa_cons (pe_op op_sub (pv 4) pe_int) (pa_cons pe_int (pa_cons (pe_un un_neg pe_int) pa_nil)))) (pg_name (i := 6) sc__law_turned.nd rfl (.inl rfl)) (pss_one (ps_expr (pe_bm PySem.F.plainAttrs_list PySem.F.slot_list_append PySem.F.type_list_append mt_append (pv 5) (pa_cons (pe_op op_sub pe_int (pe_op op_mul (pe_ix ix_list (pv 3) pe_int (fun _ _ => rfl)) (pe_ix ix_list (pv 3) (pv 6) (fun _ _ => rfl)))) pa_nil)))))
        (pss_one (ps_ret (pe_lst (pa_cons (pv 5) (pa_cons (pe_lc (own := [("k", 7)]) (by rfl) sc__law_turned.nd (pi_range1 (by rfl) T.b_range (pa_cons (pv 4) pa_nil)) (blkOk_by (own := [("k", 7)]) (N := ["row", "window", "far", "factors", "d", "out", "i", "k"]) (sc := defScope s__law_turned) (by decide +kernel)) (fun _ _ _ _ _ => (pg_name (i := 7) sc__law_turned.nd rfl (.inl rfl))) (fun _ _ _ _ _ => pts_nil) (fun _ _ _ _ _ => (pe_ix (by exact (show IxR _ (rIxL K) from ix_list)) (pv 1) (pe_op op_sub (pv 2) (pv 7)) (fun _ _ => rfl)))) pa_nil))))))))), ?_⟩)
  refine body_ok 3 (by decide) (l__law_turned) h (fun Γ ds Ψ Ξ hK hX hF hc ke => ?_)
  subst hK
  obtain ⟨f, S, n, rfl, hr, hdn, hn, hc⟩ := hc
  have h8 := hr.fok.len
  have hp := List.length_pos_iff.mpr hr.fok.ne
  have hat0 : atI [lI f, lI S] 0 = some (lI f) := rfl
  have htl : f.tail.length = f.length - 1 := List.length_tail
  refine sw_seq (sw_asg (ew_op (ew_var rfl (ew_int ⟨_, opv_ixL rfl hat0, ?_⟩))))
  refine sw_seq (sw_asg (ew_cb (aw_cons (ew_var rfl (aw_nil ⟨_, cbv_lenL rfl, ?_⟩)))))
  rw [List.length_map]
  refine sw_seq (sw_asgB (eb_lst (aw_cons (ew_op (ew_var rfl (ew_int ⟨_, opv_ixL rfl (at_head hr.fok.ne), aw_nil ⟨by show 1 ≤ 100000; decide, ?_⟩⟩))))))
  refine sw_seq (sw_forD ?_)
  walk_at "rd"
  have en : ((f.length : Int) - 1 - 0).toNat = f.length - 1 := by omega
  refine ⟨by omega, fun i ρ => ∃ c6 : Option B, ρ = [some (.fz (rwD f S)), some (.fz (lI (winL f S n))), some (.fz (.int n)), some (.fz (lI f)), some (.fz (.int f.length)), some (.ow (.lst ((f.headD 0 :: (f.tail.reverse.take i).map fun x => -f.headD 0 * x).map D.int))), c6, none], ⟨none, rfl⟩, ?_, ?_⟩
  · rintro i ρ2 hi ⟨c6, rfl⟩
    rw [en] at hi
    have ek : (f.length : Int) - 1 + (i : Int) * (-1) = ((f.length - 1 - i : Nat) : Int) := by omega
    rw [ek]
    refine ⟨_, gd_name, ?_⟩
    have hj : f.length - 1 - i < f.length := by omega
    have hti : i < f.tail.reverse.length := by rw [List.length_reverse, htl]; exact hi
    have hf0 : f.headD 0 = 1 ∨ f.headD 0 = -1 := by
      have := unit_abs hr.fok.unit
      omega
    refine sw_app rfl ?_
    refine ew_op (ew_int (ew_op (ew_op (ew_var rfl (ew_int ⟨_, opv_ixL rfl (at_head hr.fok.ne), ew_op (ew_var rfl (ew_var rfl ⟨_, opv_ixIL rfl (by omega) (by omega), _, opv_intC (.inl ⟨by omega, by omega⟩), _, opv_int, ?_⟩))⟩)))))
    refine ⟨_, rfl, by rw [List.length_map, List.length_cons, List.length_map, List.length_take, List.length_reverse, htl]; omega, some (.fz (.int ((f.length - 1 - i : Nat) : Int))), ?_⟩
    have e1 : f.tail.reverse.take (i + 1) = f.tail.reverse.take i ++ [f.getD (f.length - 1 - i) 0] := by
      rw [get_take (x := f.tail.reverse[i]) (List.getElem?_eq_getElem hti), List.getElem_reverse, List.getElem_tail]
      congr 2
      rw [List.getD_eq_getElem?_getD, List.getElem?_eq_getElem hj]
      show _ = f[f.length - 1 - i]
      congr 1
      rw [htl]
      omega
    have e2 : (0 : Int) - f.headD 0 * f.getD (((f.length - 1 - i : Nat) : Int)).toNat 0 = -f.headD 0 * f.getD (f.length - 1 - i) 0 := by
      rw [Int.toNat_natCast, Int.zero_sub, Int.neg_mul]
    rw [e1, List.map_append (f := fun x => -f.headD 0 * x), e2]
    have e3 : (f.headD 0 :: ((f.tail.reverse.take i).map (fun x => -f.headD 0 * x) ++ [f.getD (f.length - 1 - i) 0].map (fun x => -f.headD 0 * x))).map D.int = (f.headD 0 :: (f.tail.reverse.take i).map fun x => -f.headD 0 * x).map D.int ++ [.int (-f.headD 0 * f.getD (f.length - 1 - i) 0)] := by
      rw [← List.cons_append, List.map_append]
      rfl
    rw [e3]
    rfl
  · rintro ρ2 ⟨c6, rfl⟩
    rw [en]
    have e4 : (f.headD 0 :: (f.tail.reverse.take (f.length - 1)).map fun x => -f.headD 0 * x) = turnF f := by
      unfold turnF
      rw [List.take_of_length_le (by rw [List.length_reverse, htl]; exact Nat.le_refl _)]
    rw [e4]
    refine sw_freeze (i := 5) rfl ?_
    refine sw_ret (ew_lst (aw_cons (ew_var rfl (aw_cons (ew_of_eb (eb_mapR rfl (aw_cons (ew_var rfl (aw_nil ⟨_, rfl, by omega, (fun es z => by cases z), by rw [rngD_len]; omega, winF f S n, fun x hx c => ?_, ?_⟩)))))))))
    · rw [Int.toNat_natCast] at hx
      obtain ⟨i, hi, rfl⟩ := rng_mem hx
      refine ew_op (ew_var rfl (ew_op (ew_var rfl (ew_var rfl ⟨_, opv_int, _, opv_ixIL rfl (by omega) (by rw [win_len]; omega), rfl, ?_⟩))))
      have := win_get (f := f) (S := S) (n := n) (k := -(i : Int)) (by omega) (by omega)
      rw [← Int.sub_eq_add_neg] at this
      rw [this]
      rfl
    · have e5 : (rngD (f.length : Int).toNat).map (winF f S n) = (bterms f S f.length).map D.int := by
        unfold bterms
        rw [Int.toNat_natCast, rng_map, List.map_map]
        rfl
      rw [e5]
      exact aw_nil ⟨by show 2 ≤ 100000; decide, hc⟩
end Pf


namespace Pf
open PySem L2 Dl Sh
open Evl (Ex)
open Ry
local macro_rules | `(tactic| walk_at "r0") => `(tactic| with_reducible first
  | refine sw_seq ?_
  | refine ew_var rfl ?_
  | refine ew_int ?_
  | refine ew_bl ?_
  | refine ew_non ?_
  | refine ew_str ?_
  | refine aw_cons ?_
  | refine aw_nil ?_
  | refine sw_par ?_
  | refine sw_next ?_
  | refine sw_if ?_
  | refine sw_ret ?_
  | refine tw_not ?_
  | refine tw_and ?_
  | refine tw_or ?_
  | refine tw_test ?_
  | refine tw_B ?_
  | refine tw_tru rfl ?_
  | refine ew_andV ?_
  | refine ew_orV ?_
  | refine ew_notV ?_
  | refine ew_if ?_
  | refine ew_chain ?_
  | refine ew_isN ?_
  | refine ew_tup ?_
  | refine ew_lst ?_
  | refine ew_isiD isN_int rfl ?_
  | refine ew_isiD isN_bool rfl ?_
  | refine ew_isiD isN_tuple rfl ?_
  | refine ew_isiD isN_list rfl ?_
  | refine ew_isiD isN_str rfl ?_
  | refine ew_isi2D isN_list isN_tuple rfl ?_
  | refine ew_isi2D isN_tuple isN_list rfl ?_
  | refine ew_cb ?_
  | refine ew_neg ?_
  | refine ew_op ?_
  | refine ⟨_, opv_int, ?_⟩
  | refine ⟨_, opv_cmp, ?_⟩
  | refine ⟨_, opv_eq, ?_⟩
  | refine ⟨_, opv_ne, ?_⟩
  | refine ⟨_, opv_eqB, ?_⟩
  | refine ⟨_, opv_eqS, ?_⟩
  | refine ⟨_, cbv_abs, ?_⟩
  | refine ⟨_, cbv_max2, ?_⟩
  | refine ⟨_, cbv_min2, ?_⟩
  | refine pw_none ?_
  | refine pw_some ?_
  | refine ⟨_, cbv_int, ?_⟩
  | refine ⟨_, rfl, ?_⟩
  | refine ⟨_, _, rfl, ?_⟩
  | refine ⟨_, _, _, rfl, ?_⟩
  | refine ⟨_, _, _, _, rfl, ?_⟩
  | refine br_t ?_
  | refine br_f ?_
  | refine ⟨dt_int, ?_⟩
  | refine ⟨dt_bl, ?_⟩
  | refine ⟨dt_str, ?_⟩
  | refine ⟨dt_non, ?_⟩
  | refine ⟨dt_tup, ?_⟩
  | refine ⟨dt_lst, ?_⟩
  | refine sw_asg ?_
  | refine sw_drop ?_)
local macro_rules | `(tactic| walk_at "r1") => `(tactic| first
  | ((with_reducible refine ew_tupL ?hK ?_); (case hK => rfl))
  | ((with_reducible refine ew_catT ?hK ?_); (case hK => rfl))
  | ((with_reducible refine ew_repT ?hK ?_); (case hK => rfl))
  | ((with_reducible refine ew_of_eb (eb_listL ?hK ?_)); (case hK => rfl))
  | ((with_reducible refine ew_of_eb (eb_cutL ?hK ?_)); (case hK => rfl))
  | walk_at "r0"
  | ((with_reducible refine ew_of_eb (eb_mapT ?hV ?hK ?_)); (case hK => rfl); (case hV => rfl))
  | ((with_reducible refine ew_of_eb (eb_mapL ?hV ?hK ?_)); (case hK => rfl); (case hV => rfl))
  | ((with_reducible refine ew_of_eb (eb_mapR ?hV ?_)); (case hV => rfl))
  | ((with_reducible refine ew_callP ?hK trivial ?_); (case hK => rfl))
  | ((with_reducible refine ew_callW ?hK trivial ?_); (case hK => rfl))
  | ((with_reducible refine ew_callH ?hK trivial ?_); (case hK => rfl))
  | ((with_reducible refine ew_callR ?hK ?hF ?_); (case hK => rfl); (case hF => assumption))
  | ((with_reducible refine len_ok ?hK ?_); (case hK => rfl))
  | ((with_reducible refine ew_notT ?hK ?_); (case hK => rfl))
  | ((with_reducible refine ew_cutT ?hK ?_); (case hK => rfl))
  | ((with_reducible refine ⟨(?hK : Dt _ _), ?_⟩); (case hK => assumption))
  | ((with_reducible refine sw_unp2 ?hK ?hn ?_); (case hK => rfl); (case hn => rfl)))
local macro_rules | `(tactic| walk_at "side") => `(tactic| first
  | exact Or.inr (by decide)
  | exact Or.inl (by decide)
  | exact ⟨by decide, by decide⟩
  | exact ⟨by decide, by decide, by decide⟩
  | decide
  | (dsimp only; decide)
  | exact mw (by assumption) (by assumption))
local macro_rules | `(tactic| walk_at "r2") => `(tactic| first
  | walk_at "r1"
  | ((with_reducible refine ⟨_, opv_intC ?hC, ?_⟩); (case hC => walk_at "side"))
  | ((with_reducible refine ⟨_, cbv_lenL ?hK, ?_⟩); (case hK => rfl))
  | ((with_reducible refine ⟨_, cbv_allM ?hK, ?_⟩); (case hK => rfl))
  | ((with_reducible refine ⟨_, cbv_anyM ?hK, ?_⟩); (case hK => rfl))
  | ((with_reducible refine ⟨_, cbv_sumM ?hK, ?_⟩); (case hK => rfl))
  | ((with_reducible refine ⟨_, cbv_lenT ?hK, ?_⟩); (case hK => rfl))
  | (with_reducible refine ⟨_, opv_ixT (by with_unfolding_all rfl) (by with_unfolding_all rfl), ?_⟩)
  | refine br_t ?_
  | refine br_f ?_)
local macro_rules | `(tactic| walk_at "rd") => `(tactic| repeat (walk_at "r2"))
local macro_rules | `(tactic| walk_at "rs") => `(tactic| repeat ((fail_if_success (with_reducible refine sw_isif ?_)); walk_at "r2"))
local macro_rules | `(tactic| walk_at "nf") => `(tactic| (try simp only [List.set_cons_zero, List.set_cons_succ, Dl.sets, Dl.asD]))
local macro_rules | `(tactic| walk_at "ru") => `(tactic| repeat ((fail_if_success (with_reducible refine sw_seq ?_)); walk_at "r2"))

/-- the terms behind, from the first one on, ahead of them 0 -/
def undS (f S : List Int) : List Int := 0 :: (List.range f.length).map fun (i : Nat) => Rw.sq f S (-((i : Int) + 1))
def underL (f S : List Int) : List Int := trimR (rowI (f.length + 1) (conv (botF (turnF f)) (undS f S)))
def winP (f S : List Int) : D → D
  | .int k => .int (Rw.sq f S k)
  | _ => .non
abbrev c__law_dues : Cn := fun K w ds Ψ Ξ => ∃ (f S : List Int) (n : Nat), ds = [rwD f S, lI (winL f S n), .int n] ∧ ROk f S ∧ Big 500 S ∧ f.length ≤ 8 ∧ 10 ≤ n ∧ n ≤ 50 ∧ Big 1000 (undS f S) ∧ Ψ (.fz (.lst [lI (fracT f S), lI (botF f), lI (underL f S), lI (botF (turnF f))]))
theorem l__law_dues : ∀ K w ds Ψ Ξ, c__law_dues K w ds Ψ Ξ → ds.length = 3 := fun K w ds Ψ Ξ h => by
  obtain ⟨_, _, _, rfl, _⟩ := h
  rfl
theorem ok__law_dues {P : Program} {w : World} {K : PySem.W.Frag} {mg : Str → Option Value} {base : Heap} {A : Ad} (T : Txt K mg A) : FnOk P w K mg base CX0 2 A._law_dues A.fd__law_dues ["row", "window", "far"] (SpD K AnyR c__law_dues) := by
  refine Fun.ok T.F__law_dues sc__law_dues (fun vs H Q E h => spd_len (l__law_dues) h) (fun cdv A' outer s H vs Q E hr h => ⟨_, (pss_cons (ps_set (i := 3) sc__law_dues.nd rfl (.inl rfl) (pe_callB call_len_seq (by rfl) T.b_len (by decide +kernel) (pa_cons (pe_ix ix_list (pv 0) pe_int (fun _ _ => rfl)) pa_nil)))
        (pss_cons (ps_set (i := 4) sc__law_dues.nd rfl (.inl rfl) (pe_call (ok__law_bottom T) (hr.mono (by decide)) (by rfl) T.m__law_bottom T.F__law_bottom.kp (b__law_bottom T) .nil pass0 (pa_cons (pe_ix ix_list (pv 0) pe_int (fun _ _ => rfl)) pa_nil)))
        (pss_cons (ps_set (i := 5) sc__law_dues.nd rfl (.inl rfl) (pe_call (ok__law_top T) (hr.mono (by decide)) (by rfl) T.m__law_top T.F__law_top.kp (b__law_top T) .nil pass0 (pa_cons (pe_lc (own := [("k", 6)]) (by rfl) sc__law_dues.nd (pi_range1 (by rfl) T.b_range (pa_cons (pv 3) pa_nil)) (blkOk_by (own := [("k", 6)]) (N := ["row", "window", "far", "d", "bottom", "top", "k", "behind", "under"]) (sc := defScope s__law_dues) (by decide +kernel)) (fun _ _ _ _ _ => (pg_name (i := 6) sc__law_dues.nd rfl (.inl rfl))) (fun _ _ _ _ _ => pts_nil) (fun _ _ _ _ _ => (pe_ix (by exact (show IxR _ (rIxL K) from ix_list)) (pv 1) (pe_op op_add (pv 2) (pv 6)) (fun _ _ => rfl)))) (pa_cons (pv 4) (pa_cons (pv 3) pa_nil)))))
        (pss_cons (ps_set (i := 7) sc__law_dues.nd rfl (.inl rfl) (pe_call (ok__law_bottom T) (hr.mono (by decide)) (by rfl) T.m__law_bottom T.F__law_bottom.kp (b__law_bottom T) .nil pass0 (pa_cons (pe_ix ix_list (pe_call (ok__law_turned T) (hr.mono (by decide)) (by rfl) T.m__law_turned T.F__law_turned.kp (b__law_turned T) .nil pass0 (pa_cons (pv 0) (pa_cons (pv 1) (pa_cons (pv 2) pa_nil)))) pe_int (fun _ _ => rfl)) pa_nil)))
        (pss_cons (ps_set (i := 8) sc__law_dues.nd rfl (.inl rfl) (pe_call (ok__law_top T) (hr.mono (by decide)) (by rfl) T.m__law_top T.F__law_top.kp (b__law_top T) .nil pass0 (pa_cons (pe_op op_cat (pe_lst (pa_cons pe_int pa_nil)) (pe_lc (own := [("k", 6)]) (by rfl) sc__law_dues.nd (pi_range2 (by rfl) T.b_range (pa_cons pe_int (pa_cons (pe_op op_add (pv 3) pe_int) pa_nil))) (blkOk_by (own := [("k", 6)]) (N := ["row", "window", "far", "d", "bottom", "top", "k", "behind", "under"]) (sc := defScope s__law_dues) (by decide +kernel)) (fun _ _ _ _ _ => (pg_name (i := 6) sc__law_dues.nd rfl (.inl rfl))) (fun _ _ _ _ _ => pts_nil) (fun _ _ _ _ _ => (pe_ix (by exact (show IxR _ (rIxL K) from ix_list)) (pv 1) (pe_op op_sub (pv 2) (pv 6)) (fun _ _ => rfl))))) (pa_cons (pv 7) (pa_cons (pe_op op_add (pv 3) pe_int) pa_nil)))))
        (pss_one (ps_ret (pe_lst (pa_cons (pv 5) (pa_cons (pv 4) (pa_cons (pv 8) (pa_cons (pv 7) pa_nil)))))))))))), ?_⟩)
  refine body_ok 3 (by decide) (l__law_dues) h (fun Γ ds Ψ Ξ hK hX hF hc ke => ?_)
  subst hK
  obtain ⟨f, S, n, rfl, hr, bS, h8, hn0, hn, bU, hc⟩ := hc
  have hp := List.length_pos_iff.mpr hr.fok.ne
  have hat0 : atI [lI f, lI S] 0 = some (lI f) := rfl
  have hbl : (botF f).length = f.length + 1 := botF_len
  have hbt : (botF (turnF f)).length = f.length + 1 := by rw [botF_len, turn_len hr.fok]
  refine sw_seq (sw_asg (ew_cb (aw_cons (ew_op (ew_var rfl (ew_int ⟨_, opv_ixL rfl hat0, aw_nil ⟨_, cbv_lenL rfl, ?_⟩⟩))))))
  rw [List.length_map]
  refine sw_seq (sw_asg (ew_callP rfl trivial (aw_cons (ew_op (ew_var rfl (ew_int ⟨_, opv_ixL rfl hat0, aw_nil ⟨f, rfl, by omega, ?_⟩⟩))))))
  refine sw_seq (sw_asg (ew_callP rfl trivial (aw_cons (ew_of_eb (eb_mapR rfl (aw_cons (ew_var rfl (aw_nil ⟨_, rfl, by omega, (fun es z => by cases z), by rw [rngD_len]; omega, winP f S, fun x hx c => ?_, ?_⟩))))))))
  · rw [Int.toNat_natCast] at hx
    obtain ⟨i, hi, rfl⟩ := rng_mem hx
    refine ew_op (ew_var rfl (ew_op (ew_var rfl (ew_var rfl ⟨_, opv_int, _, opv_ixIL rfl (by omega) (by rw [win_len]; omega), rfl, ?_⟩))))
    have := win_get (f := f) (S := S) (n := n) (k := (i : Int)) (by omega) (by omega)
    rw [this]
    rfl
  · have e5 : (rngD (f.length : Int).toNat).map (winP f S) = S.map D.int := by
      rw [Int.toNat_natCast, rng_map]
      conv => rhs; rw [← seg_first hr.fok hr.l]
      unfold segL
      rw [List.map_map]
      apply List.map_congr_left
      intro i _
      show D.int (Rw.sq f S (i : Int)) = D.int (Rw.sq f S (0 + (i : Int)))
      rw [Int.zero_add]
    rw [e5]
    refine aw_cons (ew_var rfl (aw_cons (ew_var rfl (aw_nil ⟨S, botF f, f.length, rfl, by rw [hr.l]; exact Nat.le_refl _, by omega, by omega, big_mono bS (by decide), big_mono (botF_big hr.fok) (by decide), ?_⟩))))
    refine sw_seq (sw_asg (ew_callP rfl trivial (aw_cons (ew_op (ew_callP rfl trivial ?_)))))
    refine aw_cons (ew_var rfl (aw_cons (ew_var rfl (aw_cons (ew_var rfl (aw_nil ⟨f, S, n, rfl, hr, by omega, hn, ?_⟩))))))
    refine ew_int ⟨_, opv_ixL rfl (show atI [lI (turnF f), lI (bterms f S f.length)] 0 = some (lI (turnF f)) from rfl), aw_nil ⟨turnF f, rfl, by rw [turn_len hr.fok]; omega, ?_⟩⟩
    refine sw_seq (sw_asg (ew_callP rfl trivial (aw_cons (ew_of_eb (eb_catE (eb_lst ?_))))))
    refine aw_cons (ew_int (aw_nil ⟨by show 1 ≤ 100000; decide, _, rfl, fun c => ?_⟩))
    refine eb_lcR2 ?_
    walk_at "rd"
    have en : ((f.length : Int) + 1 - 1).toNat = f.length := by omega
    refine ⟨by omega, ?_⟩
    rw [en]
    refine Maps.comp ⟨(fun es z => by cases z), by rw [rngD2_len]; omega, winF f S n, fun x hx c => ?_, ?_⟩
    · unfold rngD2 at hx
      obtain ⟨i, hi, rfl⟩ := List.mem_map.mp hx
      have hi := List.mem_range.mp hi
      refine ew_op (ew_var rfl (ew_op (ew_var rfl (ew_var rfl ⟨_, opv_int, _, opv_ixIL rfl (by omega) (by rw [win_len]; omega), rfl, ?_⟩))))
      have := win_get (f := f) (S := S) (n := n) (k := -((1 : Int) + (i : Int))) (by omega) (by omega)
      rw [← Int.sub_eq_add_neg] at this
      rw [this]
      rfl
    · have e6 : (rngD2 1 f.length).map (winF f S n) = ((List.range f.length).map fun (i : Nat) => Rw.sq f S (-((i : Int) + 1))).map D.int := by
        unfold rngD2
        rw [List.map_map, List.map_map]
        apply List.map_congr_left
        intro i _
        show D.int (Rw.sq f S (-((1 : Int) + (i : Int)))) = D.int (Rw.sq f S (-((i : Int) + 1)))
        rw [Int.add_comm]
      rw [e6]
      refine ⟨_, rfl, by rw [List.length_map, List.length_map, List.length_range]; show 1 + _ ≤ _; omega, ?_⟩
      have hul : (undS f S).length = f.length + 1 := by
        unfold undS
        rw [List.length_cons, List.length_map, List.length_range]
      refine aw_cons (ew_var rfl (aw_cons (ew_op (ew_var rfl (ew_int ⟨_, opv_int, aw_nil ⟨undS f S, botF (turnF f), f.length + 1, rfl, by omega, by omega, by omega, bU, big_mono (botF_big (turn_ok hr.fok)) (by decide), ?_⟩⟩)))))
      refine sw_ret (ew_lst (aw_cons (ew_var rfl (aw_cons (ew_var rfl (aw_cons (ew_var rfl (aw_cons (ew_var rfl (aw_nil ⟨by show 4 ≤ 100000; decide, ?_⟩))))))))))
      exact hc
end Pf

set_option exponentiation.threshold 5000
namespace Pf
open PySem L2 Dl Sh
open Evl (Ex)
open Ry
local macro_rules | `(tactic| walk_at "r0") => `(tactic| with_reducible first
  | refine sw_seq ?_
  | refine ew_var rfl ?_
  | refine ew_int ?_
  | refine ew_bl ?_
  | refine ew_non ?_
  | refine ew_str ?_
  | refine aw_cons ?_
  | refine aw_nil ?_
  | refine sw_par ?_
  | refine sw_next ?_
  | refine sw_if ?_
  | refine sw_ret ?_
  | refine tw_not ?_
  | refine tw_and ?_
  | refine tw_or ?_
  | refine tw_test ?_
  | refine tw_B ?_
  | refine tw_tru rfl ?_
  | refine ew_andV ?_
  | refine ew_orV ?_
  | refine ew_notV ?_
  | refine ew_if ?_
  | refine ew_chain ?_
  | refine ew_isN ?_
  | refine ew_tup ?_
  | refine ew_lst ?_
  | refine ew_isiD isN_int rfl ?_
  | refine ew_isiD isN_bool rfl ?_
  | refine ew_isiD isN_tuple rfl ?_
  | refine ew_isiD isN_list rfl ?_
  | refine ew_isiD isN_str rfl ?_
  | refine ew_isi2D isN_list isN_tuple rfl ?_
  | refine ew_isi2D isN_tuple isN_list rfl ?_
  | refine ew_cb ?_
  | refine ew_neg ?_
  | refine ew_op ?_
  | refine ⟨_, opv_int, ?_⟩
  | refine ⟨_, opv_cmp, ?_⟩
  | refine ⟨_, opv_eq, ?_⟩
  | refine ⟨_, opv_ne, ?_⟩
  | refine ⟨_, opv_eqB, ?_⟩
  | refine ⟨_, opv_eqS, ?_⟩
  | refine ⟨_, cbv_abs, ?_⟩
  | refine ⟨_, cbv_max2, ?_⟩
  | refine ⟨_, cbv_min2, ?_⟩
  | refine pw_none ?_
  | refine pw_some ?_
  | refine ⟨_, cbv_int, ?_⟩
  | refine ⟨_, rfl, ?_⟩
  | refine ⟨_, _, rfl, ?_⟩
  | refine ⟨_, _, _, rfl, ?_⟩
  | refine ⟨_, _, _, _, rfl, ?_⟩
  | refine br_t ?_
  | refine br_f ?_
  | refine ⟨dt_int, ?_⟩
  | refine ⟨dt_bl, ?_⟩
  | refine ⟨dt_str, ?_⟩
  | refine ⟨dt_non, ?_⟩
  | refine ⟨dt_tup, ?_⟩
  | refine ⟨dt_lst, ?_⟩
  | refine sw_asg ?_
  | refine sw_drop ?_)
local macro_rules | `(tactic| walk_at "r1") => `(tactic| first
  | ((with_reducible refine ew_tupL ?hK ?_); (case hK => rfl))
  | ((with_reducible refine ew_catT ?hK ?_); (case hK => rfl))
  | ((with_reducible refine ew_repT ?hK ?_); (case hK => rfl))
  | ((with_reducible refine ew_of_eb (eb_listL ?hK ?_)); (case hK => rfl))
  | ((with_reducible refine ew_of_eb (eb_cutL ?hK ?_)); (case hK => rfl))
  | walk_at "r0"
  | ((with_reducible refine ew_of_eb (eb_mapT ?hV ?hK ?_)); (case hK => rfl); (case hV => rfl))
  | ((with_reducible refine ew_of_eb (eb_mapL ?hV ?hK ?_)); (case hK => rfl); (case hV => rfl))
  | ((with_reducible refine ew_of_eb (eb_mapR ?hV ?_)); (case hV => rfl))
  | ((with_reducible refine ew_callP ?hK trivial ?_); (case hK => rfl))
  | ((with_reducible refine ew_callW ?hK trivial ?_); (case hK => rfl))
  | ((with_reducible refine ew_callH ?hK trivial ?_); (case hK => rfl))
  | ((with_reducible refine ew_callR ?hK ?hF ?_); (case hK => rfl); (case hF => assumption))
  | ((with_reducible refine len_ok ?hK ?_); (case hK => rfl))
  | ((with_reducible refine ew_notT ?hK ?_); (case hK => rfl))
  | ((with_reducible refine ew_cutT ?hK ?_); (case hK => rfl))
  | ((with_reducible refine ⟨(?hK : Dt _ _), ?_⟩); (case hK => assumption))
  | ((with_reducible refine sw_unp2 ?hK ?hn ?_); (case hK => rfl); (case hn => rfl)))
local macro_rules | `(tactic| walk_at "side") => `(tactic| first
  | exact Or.inr (by decide)
  | exact Or.inl (by decide)
  | exact ⟨by decide, by decide⟩
  | exact ⟨by decide, by decide, by decide⟩
  | decide
  | (dsimp only; decide)
  | exact mw (by assumption) (by assumption))
local macro_rules | `(tactic| walk_at "r2") => `(tactic| first
  | walk_at "r1"
  | ((with_reducible refine ⟨_, opv_intC ?hC, ?_⟩); (case hC => walk_at "side"))
  | ((with_reducible refine ⟨_, cbv_lenL ?hK, ?_⟩); (case hK => rfl))
  | ((with_reducible refine ⟨_, cbv_allM ?hK, ?_⟩); (case hK => rfl))
  | ((with_reducible refine ⟨_, cbv_anyM ?hK, ?_⟩); (case hK => rfl))
  | ((with_reducible refine ⟨_, cbv_sumM ?hK, ?_⟩); (case hK => rfl))
  | ((with_reducible refine ⟨_, cbv_lenT ?hK, ?_⟩); (case hK => rfl))
  | (with_reducible refine ⟨_, opv_ixT (by with_unfolding_all rfl) (by with_unfolding_all rfl), ?_⟩)
  | refine br_t ?_
  | refine br_f ?_)
local macro_rules | `(tactic| walk_at "rd") => `(tactic| repeat (walk_at "r2"))
local macro_rules | `(tactic| walk_at "rs") => `(tactic| repeat ((fail_if_success (with_reducible refine sw_isif ?_)); walk_at "r2"))
local macro_rules | `(tactic| walk_at "nf") => `(tactic| (try simp only [List.set_cons_zero, List.set_cons_succ, Dl.sets, Dl.asD]))
local macro_rules | `(tactic| walk_at "ru") => `(tactic| repeat ((fail_if_success (with_reducible refine sw_seq ?_)); walk_at "r2"))

theorem half_mod {x y : Int} (h0 : 0 < x) (h : x ≤ y) : 2 * (y % x) < y := by
  have h1 := Int.emod_lt_of_pos y h0
  have h2 := Int.emod_add_mul_ediv y x
  have h3 : 1 ≤ y / x := Int.le_ediv_of_mul_le h0 (by omega)
  have h4 : x * 1 ≤ x * (y / x) := Int.mul_le_mul_of_nonneg_left h3 (by omega)
  omega
/-- one step of the way down -/
theorem half_step {x y B : Int} {p : Int} (h0 : 0 < x) (h : x < y) (hp : 0 < p) (hB : x * y * p < B) : (y % x) * x * (p * 2) < B := by
  have h1 := half_mod h0 (Int.le_of_lt h)
  have h2 : 2 * (y % x) * x ≤ y * x := Int.mul_le_mul_of_nonneg_right (by omega) (by omega)
  have h3 : 2 * (y % x) * x * p ≤ y * x * p := Int.mul_le_mul_of_nonneg_right h2 (by omega)
  have e1 : (y % x) * x * (p * 2) = 2 * (y % x) * x * p := by grind
  have e2 : y * x * p = x * y * p := by grind
  omega
abbrev c__law_share : Cn := fun K w ds Ψ Ξ => ∃ a b : Int, ds = [.int a, .int b] ∧ b ≠ 0 ∧ a.natAbs < 2 ^ 1900 ∧ b.natAbs < 2 ^ 1900 ∧ Ψ (.fz (shD (red a b)))
theorem l__law_share : ∀ K w ds Ψ Ξ, c__law_share K w ds Ψ Ξ → ds.length = 2 := fun K w ds Ψ Ξ h => by
  obtain ⟨_, _, rfl, _⟩ := h
  rfl
theorem ok__law_share {P : Program} {w : World} {K : PySem.W.Frag} {mg : Str → Option Value} {base : Heap} {A : Ad} (T : Txt K mg A) : FnOk P w K mg base CX0 1 A._law_share A.fd__law_share ["a", "b"] (SpD K AnyR c__law_share) := by
  refine Fun.ok T.F__law_share sc__law_share (fun vs H Q E h => spd_len (l__law_share) h) (fun cdv A' outer s H vs Q E hr h => ⟨_, (pss_cons (ps_set (i := 2) sc__law_share.nd rfl (.inl rfl) (pe_callB call_abs (by rfl) T.b_abs (by decide +kernel) (pa_cons (pv 0) pa_nil)))
        (pss_cons (ps_set (i := 3) sc__law_share.nd rfl (.inl rfl) (pe_callB call_abs (by rfl) T.b_abs (by decide +kernel) (pa_cons (pv 1) pa_nil)))
        (pss_cons (ps_for PassesOwn.never rfl (pi_range1 (by rfl) T.b_range (pa_cons pe_int pa_nil)) (pg_name (i := 4) sc__law_share.nd rfl (.inl rfl)) (pss_cons (ps_if (pt_cmpR op_eq (pv 2) pe_int (nomark _)) (pss_one ps_break) pss_nil)
        (pss_cons (ps_set (i := 5) sc__law_share.nd rfl (.inl rfl) (pe_op op_mod (pe_callTy call_int1 (by rfl) T.b_int (by decide +kernel) (pa_cons (pv 3) pa_nil)) (pv 2)))
        (pss_cons (ps_set (i := 3) sc__law_share.nd rfl (.inl rfl) (pv 2))
        (pss_one (ps_set (i := 2) sc__law_share.nd rfl (.inl rfl) (pv 5)))))))
        (pss_cons (ps_if (pt_cmpR op_lt (pv 1) pe_int (nomark _)) (pss_one (ps_ret (pe_tup (pa_cons (pe_op op_fdivG (pe_un un_neg (pv 0)) (pv 3)) (pa_cons (pe_op op_fdivG (pe_un un_neg (pv 1)) (pv 3)) pa_nil))))) pss_nil)
        (pss_one (ps_ret (pe_tup (pa_cons (pe_op op_fdivG (pv 0) (pv 3)) (pa_cons (pe_op op_fdivG (pv 1) (pv 3)) pa_nil))))))))), ?_⟩)
  refine body_ok 2 (by decide) (l__law_share) h (fun Γ ds Ψ Ξ hK hX hF hc ke => ?_)
  subst hK
  obtain ⟨a, b, rfl, hb, ba, bb, hc⟩ := hc
  have hg := gi_pos (a := a) hb
  have hgb : (gi a b).natAbs < 2 ^ 1900 := by
    have := gi_le (a := a) hb
    omega
  refine sw_seq (sw_asg ?_)
  walk_at "ru"
  refine sw_seq (sw_asg ?_)
  walk_at "ru"
  rw [abs_if, abs_if]
  refine sw_cut (fun ρ => ∃ c2 c4 c5 : Option B, ρ = [some (.fz (.int a)), some (.fz (.int b)), c2, some (.fz (.int (gi a b))), c4, c5]) (sw_forR (aw_cons (ew_int (aw_nil ⟨_, rfl, by decide, fun k ρ => ∃ (x y : Int) (c4 c5 : Option B), 0 ≤ x ∧ 0 < y ∧ gi y x = gi a b ∧ (1 ≤ k → x < y ∧ x * y * 2 ^ (k - 1) < 2 ^ 3800) ∧ (k = 0 → x * y < 2 ^ 3800 ∧ x < 2 ^ 1900 ∧ y < 2 ^ 1900) ∧ ρ = [some (.fz (.int a)), some (.fz (.int b)), some (.fz (.int x)), some (.fz (.int y)), c4, c5], ⟨a.natAbs, b.natAbs, none, none, by omega, by omega, ?_, (fun z => by omega), fun _ => ⟨?_, by omega, by omega⟩, rfl⟩, ?_, ?_⟩)))) ?_
  · rw [gi_comm, gi_abs]
  · have := mul_bd ba bb
    rw [Int.natAbs_mul] at this
    have h2 : (2 : Nat) ^ (1900 + 1900) = 2 ^ 3800 := rfl
    have h3 : ((a.natAbs * b.natAbs : Nat) : Int) < ((2 ^ 3800 : Nat) : Int) := by
      rw [← h2]
      exact Int.ofNat_lt.mpr this
    rw [Int.natCast_mul, Int.natCast_pow] at h3
    exact h3
  · rintro k ρ2 hk ⟨x, y, c4, c5, hx, hy, hgi, h1, h2, rfl⟩
    refine ⟨_, gd_name, ?_⟩
    have hk : k < 4000 := hk
    refine sw_seq (sw_if (tw_test (ew_op (ew_var rfl (ew_int ⟨_, opv_eq, _, rfl, fun h3 => ?_, fun h3 => ?_⟩)))))
    · have h3 : x = 0 := of_decide_eq_true h3
      subst h3
      rw [gi_zero (by omega)] at hgi
      subst hgi
      exact sw_brk ⟨_, _, _, rfl⟩
    · have h3 : x ≠ 0 := of_decide_eq_false h3
      have hx0 : 0 < x := by omega
      walk_at "rd"
      refine ⟨_, opv_intC hx0, ?_⟩
      walk_at "rd"
      have m0 := Int.emod_nonneg y (show x ≠ 0 by omega)
      have m1 := Int.emod_lt_of_pos y hx0
      refine ⟨y % x, x, some (.fz (.int (k : Int))), some (.fz (.int (y % x))), m0, hx0, by rw [gi_mod (by omega) hx0]; exact hgi, fun _ => ⟨m1, ?_⟩, (fun z => by omega), rfl⟩
      rw [Nat.add_sub_cancel]
      by_cases hk0 : k = 0
      · subst hk0
        obtain ⟨b1, _, _⟩ := h2 rfl
        have hle : y % x ≤ y := by
          have := Int.emod_add_mul_ediv y x
          have h4 : 0 ≤ y / x := Int.ediv_nonneg (by omega) (by omega)
          have h5 : 0 ≤ x * (y / x) := Int.mul_nonneg (by omega) h4
          omega
        have h6 : (y % x) * x ≤ y * x := Int.mul_le_mul_of_nonneg_right hle (by omega)
        rw [Int.pow_zero, Int.mul_one]
        have e : y * x = x * y := Int.mul_comm _ _
        omega
      · obtain ⟨b1, b2⟩ := h1 (by omega)
        have hp : (0 : Int) < 2 ^ (k - 1) := Int.pow_pos (by decide)
        have := half_step hx0 b1 hp b2
        have e : (2 : Int) ^ k = 2 ^ (k - 1) * 2 := by
          rw [← Int.pow_succ]
          congr 1
          omega
        rw [e]
        exact this
  · rintro ρ2 ⟨x, y, c4, c5, hx, hy, hgi, h1, h2, rfl⟩
    obtain ⟨b1, b2⟩ := h1 (by decide)
    have hx0 : x = 0 := by
      apply Classical.byContradiction
      intro hne
      have h3 : 1 ≤ x * y := by
        have : 0 < x * y := Int.mul_pos (by omega) hy
        omega
      have hp : (0 : Int) < 2 ^ 3800 := Int.pow_pos (by decide)
      have h4 : 1 * (2 : Int) ^ (Int.toNat 4000 - 1) ≤ x * y * 2 ^ (Int.toNat 4000 - 1) := Int.mul_le_mul_of_nonneg_right h3 (Int.le_of_lt (Int.pow_pos (by decide)))
      have h5 : (2 : Int) ^ (Int.toNat 4000 - 1) = 2 ^ 3800 * 2 ^ 199 := by
        rw [← Int.pow_add]
        rfl
      rw [Int.one_mul, h5] at h4
      rw [h5] at b2
      have h6 : (2 : Int) ^ 3800 * 1 ≤ 2 ^ 3800 * 2 ^ 199 := Int.mul_le_mul_of_nonneg_left (by decide) (Int.le_of_lt hp)
      rw [Int.mul_one] at h6
      exact absurd (Int.lt_of_le_of_lt (Int.le_trans h6 h4) b2) (Int.lt_irrefl _)
    subst hx0
    rw [gi_zero (by omega)] at hgi
    subst hgi
    exact ⟨_, _, _, rfl⟩
  · rintro ρ ⟨c2, c4, c5, rfl⟩
    have hfd : ∀ u : Int, CFd u (gi a b) := fun u => cfd_of (n := 1900) (by omega) hgb (by decide)
    have e1 : ∀ u : Int, u.fdiv (gi a b) = u / gi a b := fun u => Int.fdiv_eq_ediv_of_nonneg u (by omega)
    walk_at "rd"
    refine ⟨fun h3 => ?_, fun h3 => ?_⟩
    · have h3 : b < 0 := of_decide_eq_true h3
      walk_at "rd"
      refine ⟨_, opv_intC (hfd _), ?_⟩
      walk_at "rd"
      refine ⟨_, opv_intC (hfd _), ?_⟩
      walk_at "rd"
      rw [e1, e1]
      have e2 : red a b = ((-a) / gi a b, (-b) / gi a b) := by
        unfold red
        rw [if_pos h3]
      rw [e2] at hc
      exact hc
    · have h3 : ¬ b < 0 := of_decide_eq_false h3
      walk_at "rd"
      refine ⟨_, opv_intC (hfd _), ?_⟩
      walk_at "rd"
      refine ⟨_, opv_intC (hfd _), ?_⟩
      walk_at "rd"
      rw [e1, e1]
      have e2 : red a b = (a / gi a b, b / gi a b) := by
        unfold red
        rw [if_neg h3]
      rw [e2] at hc
      exact hc
end Pf

namespace Pf
open PySem L2 Dl Sh
open Evl (Ex)
open Ry
local macro_rules | `(tactic| walk_at "r0") => `(tactic| with_reducible first
  | refine sw_seq ?_
  | refine ew_var rfl ?_
  | refine ew_int ?_
  | refine ew_bl ?_
  | refine ew_non ?_
  | refine ew_str ?_
  | refine aw_cons ?_
  | refine aw_nil ?_
  | refine sw_par ?_
  | refine sw_next ?_
  | refine sw_if ?_
  | refine sw_ret ?_
  | refine tw_not ?_
  | refine tw_and ?_
  | refine tw_or ?_
  | refine tw_test ?_
  | refine tw_B ?_
  | refine tw_tru rfl ?_
  | refine ew_andV ?_
  | refine ew_orV ?_
  | refine ew_notV ?_
  | refine ew_if ?_
  | refine ew_chain ?_
  | refine ew_isN ?_
  | refine ew_tup ?_
  | refine ew_lst ?_
  | refine ew_isiD isN_int rfl ?_
  | refine ew_isiD isN_bool rfl ?_
  | refine ew_isiD isN_tuple rfl ?_
  | refine ew_isiD isN_list rfl ?_
  | refine ew_isiD isN_str rfl ?_
  | refine ew_isi2D isN_list isN_tuple rfl ?_
  | refine ew_isi2D isN_tuple isN_list rfl ?_
  | refine ew_cb ?_
  | refine ew_neg ?_
  | refine ew_op ?_
  | refine ⟨_, opv_int, ?_⟩
  | refine ⟨_, opv_cmp, ?_⟩
  | refine ⟨_, opv_eq, ?_⟩
  | refine ⟨_, opv_ne, ?_⟩
  | refine ⟨_, opv_eqB, ?_⟩
  | refine ⟨_, opv_eqS, ?_⟩
  | refine ⟨_, cbv_abs, ?_⟩
  | refine ⟨_, cbv_max2, ?_⟩
  | refine ⟨_, cbv_min2, ?_⟩
  | refine pw_none ?_
  | refine pw_some ?_
  | refine ⟨_, cbv_int, ?_⟩
  | refine ⟨_, rfl, ?_⟩
  | refine ⟨_, _, rfl, ?_⟩
  | refine ⟨_, _, _, rfl, ?_⟩
  | refine ⟨_, _, _, _, rfl, ?_⟩
  | refine br_t ?_
  | refine br_f ?_
  | refine ⟨dt_int, ?_⟩
  | refine ⟨dt_bl, ?_⟩
  | refine ⟨dt_str, ?_⟩
  | refine ⟨dt_non, ?_⟩
  | refine ⟨dt_tup, ?_⟩
  | refine ⟨dt_lst, ?_⟩
  | refine sw_asg ?_
  | refine sw_drop ?_)
local macro_rules | `(tactic| walk_at "r1") => `(tactic| first
  | ((with_reducible refine ew_tupL ?hK ?_); (case hK => rfl))
  | ((with_reducible refine ew_catT ?hK ?_); (case hK => rfl))
  | ((with_reducible refine ew_repT ?hK ?_); (case hK => rfl))
  | ((with_reducible refine ew_of_eb (eb_listL ?hK ?_)); (case hK => rfl))
  | ((with_reducible refine ew_of_eb (eb_cutL ?hK ?_)); (case hK => rfl))
  | walk_at "r0"
  | ((with_reducible refine ew_of_eb (eb_mapT ?hV ?hK ?_)); (case hK => rfl); (case hV => rfl))
  | ((with_reducible refine ew_of_eb (eb_mapL ?hV ?hK ?_)); (case hK => rfl); (case hV => rfl))
  | ((with_reducible refine ew_of_eb (eb_mapR ?hV ?_)); (case hV => rfl))
  | ((with_reducible refine ew_callP ?hK trivial ?_); (case hK => rfl))
  | ((with_reducible refine ew_callW ?hK trivial ?_); (case hK => rfl))
  | ((with_reducible refine ew_callH ?hK trivial ?_); (case hK => rfl))
  | ((with_reducible refine ew_callR ?hK ?hF ?_); (case hK => rfl); (case hF => assumption))
  | ((with_reducible refine len_ok ?hK ?_); (case hK => rfl))
  | ((with_reducible refine ew_notT ?hK ?_); (case hK => rfl))
  | ((with_reducible refine ew_cutT ?hK ?_); (case hK => rfl))
  | ((with_reducible refine ⟨(?hK : Dt _ _), ?_⟩); (case hK => assumption))
  | ((with_reducible refine sw_unp2 ?hK ?hn ?_); (case hK => rfl); (case hn => rfl)))
local macro_rules | `(tactic| walk_at "side") => `(tactic| first
  | exact Or.inr (by decide)
  | exact Or.inl (by decide)
  | exact ⟨by decide, by decide⟩
  | exact ⟨by decide, by decide, by decide⟩
  | decide
  | (dsimp only; decide)
  | exact mw (by assumption) (by assumption))
local macro_rules | `(tactic| walk_at "r2") => `(tactic| first
  | walk_at "r1"
  | ((with_reducible refine ⟨_, opv_intC ?hC, ?_⟩); (case hC => walk_at "side"))
  | ((with_reducible refine ⟨_, cbv_lenL ?hK, ?_⟩); (case hK => rfl))
  | ((with_reducible refine ⟨_, cbv_allM ?hK, ?_⟩); (case hK => rfl))
  | ((with_reducible refine ⟨_, cbv_anyM ?hK, ?_⟩); (case hK => rfl))
  | ((with_reducible refine ⟨_, cbv_sumM ?hK, ?_⟩); (case hK => rfl))
  | ((with_reducible refine ⟨_, cbv_lenT ?hK, ?_⟩); (case hK => rfl))
  | (with_reducible refine ⟨_, opv_ixT (by with_unfolding_all rfl) (by with_unfolding_all rfl), ?_⟩)
  | refine br_t ?_
  | refine br_f ?_)
local macro_rules | `(tactic| walk_at "rd") => `(tactic| repeat (walk_at "r2"))
local macro_rules | `(tactic| walk_at "rs") => `(tactic| repeat ((fail_if_success (with_reducible refine sw_isif ?_)); walk_at "r2"))
local macro_rules | `(tactic| walk_at "nf") => `(tactic| (try simp only [List.set_cons_zero, List.set_cons_succ, Dl.sets, Dl.asD]))
local macro_rules | `(tactic| walk_at "ru") => `(tactic| repeat ((fail_if_success (with_reducible refine sw_seq ?_)); walk_at "r2"))

abbrev c__law_is (A : Ad) : Cn := fun K w ds Ψ Ξ => ∃ f S : List Int, ds = [rowD A f S, rwD f S] ∧ f.length ≤ 1000 ∧ S.length ≤ 1000 ∧ Ψ (.fz (.bl true))
theorem sd_row {f : List Int} {n : Nat} (h : f.length ≤ 100000) : SD (n + 1) (tI f) := .tup n _ (fun d hd => by
  obtain ⟨i, _, rfl⟩ := List.mem_map.mp hd
  exact .int n i) (by rw [List.length_map]; exact h)
theorem l__law_is (A : Ad) : ∀ K w ds Ψ Ξ, (c__law_is A) K w ds Ψ Ξ → ds.length = 2 := fun K w ds Ψ Ξ h => by
  obtain ⟨_, _, rfl, _⟩ := h
  rfl
theorem ok__law_is {P : Program} {w : World} {K : PySem.W.Frag} {mg : Str → Option Value} {base : Heap} {A : Ad} (T : Txt K mg A) : FnOk P w K mg base CX0 7 A._law_is A.fd__law_is ["made", "row"] (SpD K AnyR (c__law_is A)) := by
  refine Fun.ok T.F__law_is sc__law_is (fun vs H Q E h => spd_len (l__law_is A) h) (fun cdv A' outer s H vs Q E hr h => ⟨_, (pss_cons (ps_if (pt_not (pt_val (pe_callB call_isi (by rfl) T.b_isinstance (by decide +kernel) (pa_cons (pv 0) (pa_cons (pe_glob (v := .ref A.c_Row) (by rfl) T.m_Row rfl) pa_nil))))) (pss_one (ps_ret pe_bl)) pss_nil)
        (pss_one (ps_ret (pe_and (pe_call (ok__law_same T) (hr.mono (by decide)) (by rfl) T.m__law_same T.F__law_same.kp (b__law_same T) .nil pass0 (pa_cons (pe_fld (pv 0) rfl) (pa_cons (pe_callTy call_tuple_of (by rfl) T.b_tuple (by decide +kernel) (pa_cons (pe_ix ix_list (pv 1) pe_int (fun _ _ => rfl)) pa_nil)) pa_nil))) (pe_one (pe_call (ok__law_same T) (hr.mono (by decide)) (by rfl) T.m__law_same T.F__law_same.kp (b__law_same T) .nil pass0 (pa_cons (pe_fld (pv 0) rfl) (pa_cons (pe_callTy call_tuple_of (by rfl) T.b_tuple (by decide +kernel) (pa_cons (pe_ix ix_list (pv 1) pe_int (fun _ _ => rfl)) pa_nil)) pa_nil)))))))), ?_⟩)
  refine body_ok 2 (by decide) (l__law_is A) h (fun Γ ds Ψ Ξ hK hX hF hc ke => ?_)
  subst hK
  obtain ⟨f, S, rfl, hf, hS, hc⟩ := hc
  have hat0 : atI [lI f, lI S] 0 = some (lI f) := rfl
  have hat1 : atI [lI f, lI S] 1 = some (lI S) := rfl
  refine sw_seq (sw_if (tw_not (tw_B (ew_isiR rfl (ew_var rfl ⟨_, _, rfl, T.ot_Row, T.kx_Row_Row, _, rfl, (fun z => by cases z), fun _ => sw_next ?_⟩)))))
  refine sw_ret (ew_andV (ew_callP rfl trivial (aw_cons (ew_fld rfl (ew_var rfl ⟨_, _, _, rfl, T.cl_Row, T.no_Row_factors, rfl, ?_⟩)))))
  refine aw_cons (ew_tupL rfl (ew_op (ew_var rfl (ew_int ⟨_, opv_ixL rfl hat0, _, rfl, aw_nil (same_in (sd_row (by omega)) ⟨_, rfl, fun _ => ?_, (fun z => by cases z)⟩)⟩))))
  refine ew_callP rfl trivial (aw_cons (ew_fld rfl (ew_var rfl ⟨_, _, _, rfl, T.cl_Row, T.no_Row_first, rfl, ?_⟩)))
  refine aw_cons (ew_tupL rfl (ew_op (ew_var rfl (ew_int ⟨_, opv_ixL rfl hat1, _, rfl, aw_nil (same_in (sd_row (by omega)) ?_)⟩))))
  exact hc
abbrev c__law_made (A : Ad) : Cn := fun K w ds Ψ Ξ => ∃ f S : List Int, ds = [.ptr w, rwD f S] ∧ ROk f S ∧ Ψ (.ow (.obj A.c_Row [("factors", tI f), ("first", tI S)]))
theorem l__law_made (A : Ad) : ∀ K w ds Ψ Ξ, (c__law_made A) K w ds Ψ Ξ → ds.length = 2 := fun K w ds Ψ Ξ h => by
  obtain ⟨_, _, rfl, _⟩ := h
  rfl
theorem ok__law_made {P : Program} {w : World} {K : PySem.W.Frag} {mg : Str → Option Value} {base : Heap} {A : Ad} (T : Txt K mg A) : FnOk P w K mg base CX0 9 A._law_made A.fd__law_made ["source", "row"] (SpD K IsSrc (c__law_made A)) := by
  refine Fun.ok T.F__law_made sc__law_made (fun vs H Q E h => spd_len (l__law_made A) h) (fun cdv A' outer s H vs Q E hr h => ⟨_, (pss_cons (ps_if (pt_cmpR op_eq (pe_call (ok__law_draw T) (hr.mono (by decide)) (by rfl) T.m__law_draw T.F__law_draw.kp (b__law_draw T) .nil pass0 (pa_cons (pv 0) (pa_cons pe_int pa_nil))) pe_int (nomark _)) (pss_one (ps_ret (pe_make T.mk_Row (ok_Row__init T) (hr.mono (by decide)) (by rfl) T.m_Row (b_Row__init T) .nil passLN (pa_cons (pe_callTy call_tuple_of (by rfl) T.b_tuple (by decide +kernel) (pa_cons (pe_ix ix_list (pv 1) pe_int (fun _ _ => rfl)) pa_nil)) (pa_cons (pe_callTy call_tuple_of (by rfl) T.b_tuple (by decide +kernel) (pa_cons (pe_ix ix_list (pv 1) pe_int (fun _ _ => rfl)) pa_nil)) pa_nil))))) pss_nil)
        (pss_cons (ps_set (i := 2) sc__law_made.nd rfl (.inl rfl) (pe_callTy call_list_of (by rfl) T.b_list (by decide +kernel) (pa_cons (pe_ix ix_list (pv 1) pe_int (fun _ _ => rfl)) pa_nil)))
        (pss_cons (ps_set (i := 3) sc__law_made.nd rfl (.inl rfl) (pe_callTy call_list_of (by rfl) T.b_list (by decide +kernel) (pa_cons (pe_ix ix_list (pv 1) pe_int (fun _ _ => rfl)) pa_nil)))
        (pss_cons (ps_set (i := 4) sc__law_made.nd rfl (.inl rfl) (pe_makeK0 T.mk_Row (ok_Row__init T) (hr.mono (by decide)) (by rfl) T.m_Row (kn_Row__init_1_first_factors T) passLN (pk_cons (pv 3) (pk_cons (pv 2) pk_nil))))
        (pss_cons (ps_asg (pe_op op_sub pe_int (pe_ix ix_list (pv 2) pe_int (fun _ _ => rfl))) (pg_sub (pv 2) pe_int set_list))
        (pss_cons (ps_expr (pe_bm PySem.F.plainAttrs_list PySem.F.slot_list_append PySem.F.type_list_append mt_append (pv 3) (pa_cons pe_int pa_nil)))
        (pss_one (ps_ret (pv 4))))))))), ?_⟩)
  refine body_ok 2 (by decide) (l__law_made A) h (fun Γ ds Ψ Ξ hK hX hF hc ke => ?_)
  subst hK
  obtain ⟨f, S, rfl, hr, hc⟩ := hc
  have hat0 : atI [lI f, lI S] 0 = some (lI f) := rfl
  have hat1 : atI [lI f, lI S] 1 = some (lI S) := rfl
  have h8 := hr.fok.len
  have hp := List.length_pos_iff.mpr hr.fok.ne
  refine sw_seq (sw_if ?_)
  walk_at "rd"
  refine ⟨by decide, by decide, fun d d0 d1 => ?_⟩
  walk_at "rd"
  refine ⟨fun h1 => ?_, fun h1 => ?_⟩
  · refine sw_retB (eb_make rfl (aw_cons (ew_tupL rfl (ew_op (ew_var rfl (ew_int ⟨_, opv_ixL rfl hat0, _, rfl, ?_⟩))))))
    refine aw_cons (ew_tupL rfl (ew_op (ew_var rfl (ew_int ⟨_, opv_ixL rfl hat1, _, rfl, aw_nil (row_in hr.fok hr.l (.inl rfl) (.inl rfl) ?_)⟩))))
    exact hc
  · refine sw_next ?_
    refine sw_seq (sw_asgB (eb_listL rfl (ew_op (ew_var rfl (ew_int ⟨_, opv_ixL rfl hat0, _, .inl rfl, ?_⟩)))))
    refine sw_seq (sw_asgB (eb_listL rfl (ew_op (ew_var rfl (ew_int ⟨_, opv_ixL rfl hat1, _, .inl rfl, ?_⟩)))))
    refine sw_seq (sw_asgB (eb_makeB (by decide) rfl rfl (fun x zs h => match zs, h with | [_, _], _ => rfl) (fun x zs h => match zs, h with | [_, _], _ => rfl) rfl (fun x => row_in hr.fok hr.l (.inr rfl) (.inr rfl) ⟨_, rfl, ?_, ?_⟩)))
    · intro p hp
      simp only [List.mem_cons, List.not_mem_nil, or_false] at hp
      rcases hp with rfl | rfl
      · exact ⟨f, rfl⟩
      · exact ⟨S, rfl⟩
    · have hpI : (0 : Int) < f.length := by omega
      refine sw_seq (sw_setI (S := f) rfl (ew_op (ew_int (ew_ixIO (S := f) rfl rfl (ew_int ⟨0, rfl, rfl, by decide, hpI, _, opv_int, _, rfl, rfl, ew_int ⟨0, rfl, rfl, by decide, hpI, ?_⟩⟩)))))
      refine sw_seq (sw_app rfl (ew_int ⟨_, rfl, by rw [List.length_map, hr.l]; omega, ?_⟩))
      exact sw_retO rfl hc
end Pf

namespace Pf
open PySem L2 Dl Sh
open Evl (Ex)
open Ry
local macro_rules | `(tactic| walk_at "r0") => `(tactic| with_reducible first
  | refine sw_seq ?_
  | refine ew_var rfl ?_
  | refine ew_int ?_
  | refine ew_bl ?_
  | refine ew_non ?_
  | refine ew_str ?_
  | refine aw_cons ?_
  | refine aw_nil ?_
  | refine sw_par ?_
  | refine sw_next ?_
  | refine sw_if ?_
  | refine sw_ret ?_
  | refine tw_not ?_
  | refine tw_and ?_
  | refine tw_or ?_
  | refine tw_test ?_
  | refine tw_B ?_
  | refine tw_tru rfl ?_
  | refine ew_andV ?_
  | refine ew_orV ?_
  | refine ew_notV ?_
  | refine ew_if ?_
  | refine ew_chain ?_
  | refine ew_isN ?_
  | refine ew_tup ?_
  | refine ew_lst ?_
  | refine ew_isiD isN_int rfl ?_
  | refine ew_isiD isN_bool rfl ?_
  | refine ew_isiD isN_tuple rfl ?_
  | refine ew_isiD isN_list rfl ?_
  | refine ew_isiD isN_str rfl ?_
  | refine ew_isi2D isN_list isN_tuple rfl ?_
  | refine ew_isi2D isN_tuple isN_list rfl ?_
  | refine ew_cb ?_
  | refine ew_neg ?_
  | refine ew_op ?_
  | refine ⟨_, opv_int, ?_⟩
  | refine ⟨_, opv_cmp, ?_⟩
  | refine ⟨_, opv_eq, ?_⟩
  | refine ⟨_, opv_ne, ?_⟩
  | refine ⟨_, opv_eqB, ?_⟩
  | refine ⟨_, opv_eqS, ?_⟩
  | refine ⟨_, cbv_abs, ?_⟩
  | refine ⟨_, cbv_max2, ?_⟩
  | refine ⟨_, cbv_min2, ?_⟩
  | refine pw_none ?_
  | refine pw_some ?_
  | refine ⟨_, cbv_int, ?_⟩
  | refine ⟨_, rfl, ?_⟩
  | refine ⟨_, _, rfl, ?_⟩
  | refine ⟨_, _, _, rfl, ?_⟩
  | refine ⟨_, _, _, _, rfl, ?_⟩
  | refine br_t ?_
  | refine br_f ?_
  | refine ⟨dt_int, ?_⟩
  | refine ⟨dt_bl, ?_⟩
  | refine ⟨dt_str, ?_⟩
  | refine ⟨dt_non, ?_⟩
  | refine ⟨dt_tup, ?_⟩
  | refine ⟨dt_lst, ?_⟩
  | refine sw_asg ?_
  | refine sw_drop ?_)
local macro_rules | `(tactic| walk_at "r1") => `(tactic| first
  | ((with_reducible refine ew_tupL ?hK ?_); (case hK => rfl))
  | ((with_reducible refine ew_catT ?hK ?_); (case hK => rfl))
  | ((with_reducible refine ew_repT ?hK ?_); (case hK => rfl))
  | ((with_reducible refine ew_of_eb (eb_listL ?hK ?_)); (case hK => rfl))
  | ((with_reducible refine ew_of_eb (eb_cutL ?hK ?_)); (case hK => rfl))
  | walk_at "r0"
  | ((with_reducible refine ew_of_eb (eb_mapT ?hV ?hK ?_)); (case hK => rfl); (case hV => rfl))
  | ((with_reducible refine ew_of_eb (eb_mapL ?hV ?hK ?_)); (case hK => rfl); (case hV => rfl))
  | ((with_reducible refine ew_of_eb (eb_mapR ?hV ?_)); (case hV => rfl))
  | ((with_reducible refine ew_callP ?hK trivial ?_); (case hK => rfl))
  | ((with_reducible refine ew_callW ?hK trivial ?_); (case hK => rfl))
  | ((with_reducible refine ew_callH ?hK trivial ?_); (case hK => rfl))
  | ((with_reducible refine ew_callR ?hK ?hF ?_); (case hK => rfl); (case hF => assumption))
  | ((with_reducible refine len_ok ?hK ?_); (case hK => rfl))
  | ((with_reducible refine ew_notT ?hK ?_); (case hK => rfl))
  | ((with_reducible refine ew_cutT ?hK ?_); (case hK => rfl))
  | ((with_reducible refine ⟨(?hK : Dt _ _), ?_⟩); (case hK => assumption))
  | ((with_reducible refine sw_unp2 ?hK ?hn ?_); (case hK => rfl); (case hn => rfl)))
local macro_rules | `(tactic| walk_at "side") => `(tactic| first
  | exact Or.inr (by decide)
  | exact Or.inl (by decide)
  | exact ⟨by decide, by decide⟩
  | exact ⟨by decide, by decide, by decide⟩
  | decide
  | (dsimp only; decide)
  | exact mw (by assumption) (by assumption))
local macro_rules | `(tactic| walk_at "r2") => `(tactic| first
  | walk_at "r1"
  | ((with_reducible refine ⟨_, opv_intC ?hC, ?_⟩); (case hC => walk_at "side"))
  | ((with_reducible refine ⟨_, cbv_lenL ?hK, ?_⟩); (case hK => rfl))
  | ((with_reducible refine ⟨_, cbv_allM ?hK, ?_⟩); (case hK => rfl))
  | ((with_reducible refine ⟨_, cbv_anyM ?hK, ?_⟩); (case hK => rfl))
  | ((with_reducible refine ⟨_, cbv_sumM ?hK, ?_⟩); (case hK => rfl))
  | ((with_reducible refine ⟨_, cbv_lenT ?hK, ?_⟩); (case hK => rfl))
  | (with_reducible refine ⟨_, opv_ixT (by with_unfolding_all rfl) (by with_unfolding_all rfl), ?_⟩)
  | refine br_t ?_
  | refine br_f ?_)
local macro_rules | `(tactic| walk_at "rd") => `(tactic| repeat (walk_at "r2"))
local macro_rules | `(tactic| walk_at "rs") => `(tactic| repeat ((fail_if_success (with_reducible refine sw_isif ?_)); walk_at "r2"))
local macro_rules | `(tactic| walk_at "nf") => `(tactic| (try simp only [List.set_cons_zero, List.set_cons_succ, Dl.sets, Dl.asD]))
local macro_rules | `(tactic| walk_at "ru") => `(tactic| repeat ((fail_if_success (with_reducible refine sw_seq ?_)); walk_at "r2"))

theorem kw2_same : True := trivial
/-- a wrong pair: data that are no row -/
structure BadPair (K : PySem.W.Frag) (d e : D) : Prop where
  dd : Dt K d
  de : Dt K e
  fd : FzD K 4 d
  fe : FzD K 4 e
  d1 : Dt1 K (frzD 4 d)
  e1 : Dt1 K (frzD 4 e)
  no : isRowD d e = false
  s1 : SD 3 d
  s2 : SD 3 e
abbrev c__law_row_refused (A : Ad) : Cn := fun K w ds Ψ Ξ => ∃ d e : D, ds = [.tup [d, e]] ∧ BadPair K d e ∧ Ψ (.fz (.bl true))
theorem l__law_row_refused (A : Ad) : ∀ K w ds Ψ Ξ, (c__law_row_refused A) K w ds Ψ Ξ → ds.length = 1 := fun K w ds Ψ Ξ h => by
  obtain ⟨_, _, rfl, _⟩ := h
  rfl
theorem ok__law_row_refused {P : Program} {w : World} {K : PySem.W.Frag} {mg : Str → Option Value} {base : Heap} {A : Ad} (T : Txt K mg A) : FnOk P w K mg base CX0 9 A._law_row_refused A.fd__law_row_refused ["pair"] (SpD K AnyR (c__law_row_refused A)) := by
  refine Fun.ok T.F__law_row_refused sc__law_row_refused (fun vs H Q E h => spd_len (l__law_row_refused A) h) (fun cdv A' outer s H vs Q E hr h => ⟨_, (pss_cons (L2N.ps_try_as (i := 1) (tb := _) (ts := _) (Wout := fun _ _ _ _ => False) rfl rfl sc__law_row_refused.nd rfl rfl ⟨rfl, by decide, .inl T.m_CountError⟩ takes0N (fun W pn xe tk _ => (pss_one (ps_expr (by exact (pe_makeS T.mk_Row (ok_Row__init T) (hr.mono (by decide)) (by rfl) T.m_Row (b_Row__init T) (fun σ => L2N.passAt tk σ) (pa_cons (pe_ix (by exact (show IxR _ (rIxT K) from ix_tup)) (pv 0) pe_int (fun _ _ => rfl)) (pa_cons (pe_ix (by exact (show IxR _ (rIxT K) from ix_tup)) (pv 0) pe_int (fun _ _ => rfl)) pa_nil))))))) (fun a oe cls d pn hz hf => (pss_cons (ps_if (PW.pt (pw_or (pt_val (pe_callB (by exact (show CallR _ _ (rIsD K A.c_InvalidRow a cls d) from call_isD T.ec_InvalidRow hz.zc hf)) (by rfl) T.b_isinstance (by decide +kernel) (pa_cons (pv 1) (pa_cons (pe_glob (v := .ref A.c_InvalidNumber) (by rfl) T.m_InvalidNumber rfl) pa_nil)))) (pw_or (pt_val (pe_callB (by exact (show CallR _ _ (rIsD K A.c_InvalidRow a cls d) from call_isD T.ec_InvalidRow hz.zc hf)) (by rfl) T.b_isinstance (by decide +kernel) (pa_cons (pv 1) (pa_cons (pe_glob (v := .ref A.c_InvalidShare) (by rfl) T.m_InvalidShare rfl) pa_nil)))) (pw_or1 (pt_val (pe_callB (by exact (show CallR _ _ (rIsD K A.c_InvalidRow a cls d) from call_isD T.ec_InvalidRow hz.zc hf)) (by rfl) T.b_isinstance (by decide +kernel) (pa_cons (pv 1) (pa_cons (pe_glob (v := .ref A.c_InvalidValues) (by rfl) T.m_InvalidValues rfl) pa_nil)))))))) (pss_one (ps_ret pe_bl)) pss_nil)
        (pss_one (ps_ret (pe_and (pe_callB (by exact (show CallR _ _ (rIsD K A.c_InvalidRow a cls d) from call_isD T.ec_InvalidRow hz.zc hf)) (by rfl) T.b_isinstance (by decide +kernel) (pa_cons (pv 1) (pa_cons (pe_glob (v := .ref A.c_InvalidRow) (by rfl) T.m_InvalidRow rfl) pa_nil))) (pe_one (L2H.pe_callH (hok__law_same T) (L2H.roomH_mark (Room.mono (j := 6) hr (by decide)) _) (hot_suite hz hf) (by rfl) T.m__law_same T.F__law_same.kp (b__law_same T) pass0A (pa_cons (pe_xf T.xf_InvalidRow T.no_InvalidRow_value hz.zc hf (pv 1)) (pa_cons (pe_tup (pa_cons (pe_ix (by exact (show IxR _ (rIxT K) from ix_tup)) (pv 0) pe_int (fun _ _ => rfl)) (pa_cons (pe_ix (by exact (show IxR _ (rIxT K) from ix_tup)) (pv 0) pe_int (fun _ _ => rfl)) pa_nil))) pa_nil))))))))))
        (pss_one (ps_ret pe_bl))), ?_⟩)
  refine body_ok 1 (by decide) (l__law_row_refused A) h (fun Γ ds Ψ Ξ hK hX hF hc ke => ?_)
  subst hK
  obtain ⟨d, e, rfl, hb, hc⟩ := hc
  have hd := hb.dd
  have he := hb.de
  have a0 : atI [d, e] 0 = some d := rfl
  have a1 : atI [d, e] 1 = some e := rfl
  have hsd : SD 4 (.tup [d, e]) := .tup 3 _ (fun x hx => by
    simp only [List.mem_cons, List.not_mem_nil, or_false] at hx
    rcases hx with rfl | rfl
    · exact hb.s1
    · exact hb.s2) (by show 2 ≤ 100000; decide)
  refine sw_seq (sw_try (fun ρ C f d' => ρ = [some (.fz (.tup [d, e])), none] ∧ C = A.c_InvalidRow ∧ f = "value" ∧ d' = .tup [d, e]) rfl (tryB_make rfl ?_) ?_)
  · refine aw_cons (ew_op (ew_var rfl (ew_int ⟨_, opv_ixT rfl a0, ?_⟩)))
    refine aw_cons (ew_op (ew_var rfl (ew_int ⟨_, opv_ixT rfl a1, ?_⟩)))
    exact aw_nil ⟨d, e, rfl, hd, he, hb.fd, hb.fe, hb.d1, hb.e1, (fun z => by rw [hb.no] at z; cases z), fun _ => ⟨rfl, rfl, rfl, rfl⟩⟩
  · rintro ρ1 C f d' ⟨rfl, rfl, rfl, rfl⟩
    refine ⟨T.te_InvalidRow_CountError, fun a dd => ?_⟩
    refine sw_seq (sw_if (tw_or (tw_B (ew_isE (ew_var rfl ⟨_, _, rfl, T.kx_InvalidRow_InvalidNumber, _, rfl, (fun z => by cases z), fun _ => ?_⟩)))))
    refine tw_or (tw_B (ew_isE (ew_var rfl ⟨_, _, rfl, T.kx_InvalidRow_InvalidShare, _, rfl, (fun z => by cases z), fun _ => ?_⟩)))
    refine tw_B (ew_isE (ew_var rfl ⟨_, _, rfl, T.kx_InvalidRow_InvalidValues, _, rfl, (fun z => by cases z), fun _ => sw_next ?_⟩))
    refine sw_ret (ew_andV (ew_isE (ew_var rfl ⟨_, _, rfl, T.kx_InvalidRow_InvalidRow, _, rfl, fun _ => ?_, (fun z => by cases z)⟩)))
    refine ew_callH rfl trivial (aw_cons (ew_xf (ew_var rfl ⟨_, rfl, ?_⟩)))
    refine aw_cons (ew_tup (aw_cons (ew_op (ew_var rfl (ew_int ⟨_, opv_ixT rfl a0, ?_⟩)))))
    refine aw_cons (ew_op (ew_var rfl (ew_int ⟨_, opv_ixT rfl a1, ?_⟩)))
    exact aw_nil ⟨by show 2 ≤ 100000; decide, aw_nil (same_in hsd hc)⟩
/-- what is no integer -/
abbrev c__law_number_refused (A : Ad) : Cn := fun K w ds Ψ Ξ => ∃ (f S : List Int) (x : D) (by_ : Int), ds = [rowD A f S, x, .int by_] ∧ ROk f S ∧ Dt K x ∧ isIntD x = false ∧ SD 4 x ∧ Ψ (.fz (.bl true))
theorem l__law_number_refused (A : Ad) : ∀ K w ds Ψ Ξ, (c__law_number_refused A) K w ds Ψ Ξ → ds.length = 3 := fun K w ds Ψ Ξ h => by
  obtain ⟨_, _, _, _, rfl, _⟩ := h
  rfl
theorem ok__law_number_refused {P : Program} {w : World} {K : PySem.W.Frag} {mg : Str → Option Value} {base : Heap} {A : Ad} (T : Txt K mg A) : FnOk P w K mg base CX0 10 A._law_number_refused A.fd__law_number_refused ["made", "bad", "by"] (SpD K AnyR (c__law_number_refused A)) := by
  refine Fun.ok T.F__law_number_refused sc__law_number_refused (fun vs H Q E h => spd_len (l__law_number_refused A) h) (fun cdv A' outer s H vs Q E hr h => ⟨_, (pss_cons (L2N.ps_try_as (i := 3) (tb := _) (ts := _) (Wout := fun _ _ _ _ => False) rfl rfl sc__law_number_refused.nd rfl rfl ⟨rfl, by decide, .inl T.m_CountError⟩ takes0N (fun W pn xe tk _ => (pss_one (ps_if (pt_cmpR op_eq (pv 2) pe_int (nomark _)) (pss_one (ps_expr (by exact (pe_methT (pv 0) T.cl_Row T.me_Row__term (ok_Row__term T) (hr.mono (by decide)) (b_Row__term T) (fun σ => L2N.passAt tk σ) (pa_cons (pv 1) pa_nil))))) (pss_one (ps_expr (by exact (pe_methKS (pv 0) T.cl_Row T.me_Row__moved (ok_Row__moved T) (hr.mono (by decide)) (kb_Row__moved_1_k T) (fun σ => L2N.passAt tk σ) (pk_cons (pv 1) pk_nil)))))))) (fun a oe cls d pn hz hf => (pss_cons (ps_if (PW.pt (pw_or (pt_val (pe_callB (by exact (show CallR _ _ (rIsD K A.c_InvalidNumber a cls d) from call_isD T.ec_InvalidNumber hz.zc hf)) (by rfl) T.b_isinstance (by decide +kernel) (pa_cons (pv 3) (pa_cons (pe_glob (v := .ref A.c_InvalidRow) (by rfl) T.m_InvalidRow rfl) pa_nil)))) (pw_or1 (pt_val (pe_callB (by exact (show CallR _ _ (rIsD K A.c_InvalidNumber a cls d) from call_isD T.ec_InvalidNumber hz.zc hf)) (by rfl) T.b_isinstance (by decide +kernel) (pa_cons (pv 3) (pa_cons (pe_glob (v := .ref A.c_InvalidShare) (by rfl) T.m_InvalidShare rfl) pa_nil))))))) (pss_one (ps_ret pe_bl)) pss_nil)
        (pss_one (ps_ret (pe_and (pe_callB (by exact (show CallR _ _ (rIsD K A.c_InvalidNumber a cls d) from call_isD T.ec_InvalidNumber hz.zc hf)) (by rfl) T.b_isinstance (by decide +kernel) (pa_cons (pv 3) (pa_cons (pe_glob (v := .ref A.c_InvalidNumber) (by rfl) T.m_InvalidNumber rfl) pa_nil))) (pe_one (L2H.pe_callH (hok__law_same T) (L2H.roomH_mark (Room.mono (j := 6) hr (by decide)) _) (hot_suite hz hf) (by rfl) T.m__law_same T.F__law_same.kp (b__law_same T) pass0A (pa_cons (pe_xf T.xf_InvalidNumber T.no_InvalidNumber_value hz.zc hf (pv 3)) (pa_cons (pv 1) pa_nil))))))))))
        (pss_one (ps_ret pe_bl))), ?_⟩)
  refine body_ok 3 (by decide) (l__law_number_refused A) h (fun Γ ds Ψ Ξ hK hX hF hc ke => ?_)
  subst hK
  obtain ⟨f, S, x, by_, rfl, hr, hd, hx, hsd, hc⟩ := hc
  have nk : ∀ i, x = .int i → False := fun i e => by
    rw [e] at hx
    cases hx
  refine sw_seq (sw_try (tb := fun W => tIfS (tTest (tOp rEq (tVar 2) (tC (V.int 0)))) (tDrop (tMethT A.c_Row "term" (SpD Γ.K AnyR (c_Row__term A)) (WE W) (tVar 0) (tCons (tVar 1) tNil))) (tDrop (tMethK A.c_Row "moved" (SpD Γ.K AnyR (c_Row__moved A)) (kwP 1 1 [0, 1]) (WE W) (tVar 0) (tCons (tVar 1) tNil)))) (fun ρ C f' d' => ρ = [some (.fz (rowD A f S)), some (.fz x), some (.fz (.int by_)), none] ∧ C = A.c_InvalidNumber ∧ f' = "value" ∧ d' = x) rfl ?_ ?_)
  · refine tryB_if (tw_test (ew_op (ew_var rfl (ew_int ⟨_, opv_eq, _, rfl, fun h1 => ?_, fun h1 => ?_⟩))))
    · refine tryB_meth rfl trivial (ew_var rfl ⟨_, rfl, rfl, aw_cons (ew_var rfl (aw_nil ⟨f, S, x, rfl, hd, hr, (fun i e => (nk i e).elim), fun _ => ⟨rfl, rfl, rfl, rfl⟩⟩))⟩)
    · refine tryB_methW rfl trivial (ew_var rfl ⟨_, rfl, rfl, aw_cons (ew_var rfl (aw_nil ⟨f, S, x, rfl, hd, hr, (fun i e => (nk i e).elim), fun _ => ⟨rfl, rfl, rfl, rfl⟩⟩))⟩)
  · rintro ρ1 C f' d' ⟨rfl, rfl, rfl, rfl⟩
    refine ⟨T.te_InvalidNumber_CountError, fun a dd => ?_⟩
    refine sw_seq (sw_if (tw_or (tw_B (ew_isE (ew_var rfl ⟨_, _, rfl, T.kx_InvalidNumber_InvalidRow, _, rfl, (fun z => by cases z), fun _ => ?_⟩)))))
    refine tw_B (ew_isE (ew_var rfl ⟨_, _, rfl, T.kx_InvalidNumber_InvalidShare, _, rfl, (fun z => by cases z), fun _ => sw_next ?_⟩))
    refine sw_ret (ew_andV (ew_isE (ew_var rfl ⟨_, _, rfl, T.kx_InvalidNumber_InvalidNumber, _, rfl, fun _ => ?_, (fun z => by cases z)⟩)))
    refine ew_callH rfl trivial (aw_cons (ew_xf (ew_var rfl ⟨_, rfl, ?_⟩)))
    exact aw_cons (ew_var rfl (aw_nil (same_in hsd hc)))
end Pf

namespace Pf
open PySem L2 Dl Sh
open Evl (Ex)
open Ry
local macro_rules | `(tactic| walk_at "r0") => `(tactic| with_reducible first
  | refine sw_seq ?_
  | refine ew_var rfl ?_
  | refine ew_int ?_
  | refine ew_bl ?_
  | refine ew_non ?_
  | refine ew_str ?_
  | refine aw_cons ?_
  | refine aw_nil ?_
  | refine sw_par ?_
  | refine sw_next ?_
  | refine sw_if ?_
  | refine sw_ret ?_
  | refine tw_not ?_
  | refine tw_and ?_
  | refine tw_or ?_
  | refine tw_test ?_
  | refine tw_B ?_
  | refine tw_tru rfl ?_
  | refine ew_andV ?_
  | refine ew_orV ?_
  | refine ew_notV ?_
  | refine ew_if ?_
  | refine ew_chain ?_
  | refine ew_isN ?_
  | refine ew_tup ?_
  | refine ew_lst ?_
  | refine ew_isiD isN_int rfl ?_
  | refine ew_isiD isN_bool rfl ?_
  | refine ew_isiD isN_tuple rfl ?_
  | refine ew_isiD isN_list rfl ?_
  | refine ew_isiD isN_str rfl ?_
  | refine ew_isi2D isN_list isN_tuple rfl ?_
  | refine ew_isi2D isN_tuple isN_list rfl ?_
  | refine ew_cb ?_
  | refine ew_neg ?_
  | refine ew_op ?_
  | refine ⟨_, opv_int, ?_⟩
  | refine ⟨_, opv_cmp, ?_⟩
  | refine ⟨_, opv_eq, ?_⟩
  | refine ⟨_, opv_ne, ?_⟩
  | refine ⟨_, opv_eqB, ?_⟩
  | refine ⟨_, opv_eqS, ?_⟩
  | refine ⟨_, cbv_abs, ?_⟩
  | refine ⟨_, cbv_max2, ?_⟩
  | refine ⟨_, cbv_min2, ?_⟩
  | refine pw_none ?_
  | refine pw_some ?_
  | refine ⟨_, cbv_int, ?_⟩
  | refine ⟨_, rfl, ?_⟩
  | refine ⟨_, _, rfl, ?_⟩
  | refine ⟨_, _, _, rfl, ?_⟩
  | refine ⟨_, _, _, _, rfl, ?_⟩
  | refine br_t ?_
  | refine br_f ?_
  | refine ⟨dt_int, ?_⟩
  | refine ⟨dt_bl, ?_⟩
  | refine ⟨dt_str, ?_⟩
  | refine ⟨dt_non, ?_⟩
  | refine ⟨dt_tup, ?_⟩
  | refine ⟨dt_lst, ?_⟩
  | refine sw_asg ?_
  | refine sw_drop ?_)
local macro_rules | `(tactic| walk_at "r1") => `(tactic| first
  | ((with_reducible refine ew_tupL ?hK ?_); (case hK => rfl))
  | ((with_reducible refine ew_catT ?hK ?_); (case hK => rfl))
  | ((with_reducible refine ew_repT ?hK ?_); (case hK => rfl))
  | ((with_reducible refine ew_of_eb (eb_listL ?hK ?_)); (case hK => rfl))
  | ((with_reducible refine ew_of_eb (eb_cutL ?hK ?_)); (case hK => rfl))
  | walk_at "r0"
  | ((with_reducible refine ew_of_eb (eb_mapT ?hV ?hK ?_)); (case hK => rfl); (case hV => rfl))
  | ((with_reducible refine ew_of_eb (eb_mapL ?hV ?hK ?_)); (case hK => rfl); (case hV => rfl))
  | ((with_reducible refine ew_of_eb (eb_mapR ?hV ?_)); (case hV => rfl))
  | ((with_reducible refine ew_callP ?hK trivial ?_); (case hK => rfl))
  | ((with_reducible refine ew_callW ?hK trivial ?_); (case hK => rfl))
  | ((with_reducible refine ew_callH ?hK trivial ?_); (case hK => rfl))
  | ((with_reducible refine ew_callR ?hK ?hF ?_); (case hK => rfl); (case hF => assumption))
  | ((with_reducible refine len_ok ?hK ?_); (case hK => rfl))
  | ((with_reducible refine ew_notT ?hK ?_); (case hK => rfl))
  | ((with_reducible refine ew_cutT ?hK ?_); (case hK => rfl))
  | ((with_reducible refine ⟨(?hK : Dt _ _), ?_⟩); (case hK => assumption))
  | ((with_reducible refine sw_unp2 ?hK ?hn ?_); (case hK => rfl); (case hn => rfl)))
local macro_rules | `(tactic| walk_at "side") => `(tactic| first
  | exact Or.inr (by decide)
  | exact Or.inl (by decide)
  | exact ⟨by decide, by decide⟩
  | exact ⟨by decide, by decide, by decide⟩
  | decide
  | (dsimp only; decide)
  | exact mw (by assumption) (by assumption))
local macro_rules | `(tactic| walk_at "r2") => `(tactic| first
  | walk_at "r1"
  | ((with_reducible refine ⟨_, opv_intC ?hC, ?_⟩); (case hC => walk_at "side"))
  | ((with_reducible refine ⟨_, cbv_lenL ?hK, ?_⟩); (case hK => rfl))
  | ((with_reducible refine ⟨_, cbv_allM ?hK, ?_⟩); (case hK => rfl))
  | ((with_reducible refine ⟨_, cbv_anyM ?hK, ?_⟩); (case hK => rfl))
  | ((with_reducible refine ⟨_, cbv_sumM ?hK, ?_⟩); (case hK => rfl))
  | ((with_reducible refine ⟨_, cbv_lenT ?hK, ?_⟩); (case hK => rfl))
  | (with_reducible refine ⟨_, opv_ixT (by with_unfolding_all rfl) (by with_unfolding_all rfl), ?_⟩)
  | refine br_t ?_
  | refine br_f ?_)
local macro_rules | `(tactic| walk_at "rd") => `(tactic| repeat (walk_at "r2"))
local macro_rules | `(tactic| walk_at "rs") => `(tactic| repeat ((fail_if_success (with_reducible refine sw_isif ?_)); walk_at "r2"))
local macro_rules | `(tactic| walk_at "nf") => `(tactic| (try simp only [List.set_cons_zero, List.set_cons_succ, Dl.sets, Dl.asD]))
local macro_rules | `(tactic| walk_at "ru") => `(tactic| repeat ((fail_if_success (with_reducible refine sw_seq ?_)); walk_at "r2"))

/-- what stands in wrong rows -/
inductive Leaf : D → Prop
  | int (i : Int) : Leaf (.int i)
  | bl (b : Bool) : Leaf (.bl b)
  | non : Leaf .non
  | str (x : Str) : Leaf (.str x)
  | pr (a b : Int) : Leaf (.tup [.int a, .int b])
theorem Leaf.dt {K : PySem.W.Frag} {d : D} (h : Leaf d) : Dt K d := by
  cases h with
  | int i => exact dt_int
  | bl b => exact dt_bl
  | non => exact dt_non
  | str x => exact dt_str
  | pr a b => exact dt_tup
theorem Leaf.sd {d : D} (h : Leaf d) : SD 2 d := by
  cases h with
  | int i => exact .int _ _
  | bl b => exact .bl _ _
  | non => exact .non _
  | str x => exact .str _ _
  | pr a b => exact .tup 1 _ (fun d hd => by
      simp only [List.mem_cons, List.not_mem_nil, or_false] at hd
      rcases hd with rfl | rfl <;> exact .int _ _) (by show 2 ≤ 100000; decide)
theorem Leaf.fz {K : PySem.W.Frag} {d : D} (h : Leaf d) : FzD K 3 d := by
  cases h with
  | int i => exact .one _ _ dt_int rfl rfl
  | bl b => exact .one _ _ dt_bl rfl rfl
  | non => exact .one _ _ dt_non rfl rfl
  | str x => exact .one _ _ dt_str rfl rfl
  | pr a b => exact .tup 2 _ (fun d hd => by
      simp only [List.mem_cons, List.not_mem_nil, or_false] at hd
      rcases hd with rfl | rfl <;> exact .one _ _ dt_int rfl rfl) (by show 2 ≤ 99999; decide)
theorem Leaf.frz {d : D} (h : Leaf d) : frzD 3 d = d := by
  cases h <;> rfl
/-- a sequence of such -/
structure Seq (d : D) (xs : List D) : Prop where
  is : d = .tup xs ∨ d = .lst xs
  lf : ∀ x ∈ xs, Leaf x
  le : xs.length ≤ 1000
theorem Seq.frz {d : D} {xs : List D} (h : Seq d xs) : frzD 4 d = .tup xs := by
  have e : xs.map (frzD 3) = xs := by
    conv => rhs; rw [← List.map_id xs]
    exact List.map_congr_left fun x hx => (h.lf x hx).frz
  rcases h.is with rfl | rfl
  · show D.tup (xs.map (frzD 3)) = _
    rw [e]
  · show D.tup (xs.map (frzD 3)) = _
    rw [e]
/-- data that a wrong row may be made of -/
structure Gd (K : PySem.W.Frag) (d : D) : Prop where
  dt : Dt K d
  fz : FzD K 4 d
  d1 : Dt1 K (frzD 4 d)
  sd : SD 3 d
theorem Seq.gd {K : PySem.W.Frag} {d : D} {xs : List D} (h : Seq d xs) : Gd K d := by
  have hl := h.le
  refine ⟨?_, ?_, ?_, ?_⟩
  · rcases h.is with rfl | rfl
    · exact dt_tup
    · exact dt_lst
  · rcases h.is with rfl | rfl
    · exact .tup 3 _ (fun x hx => (h.lf x hx).fz) (by omega)
    · exact .lst 3 _ (fun x hx => (h.lf x hx).fz) (by omega)
  · rw [h.frz]
    refine ⟨dt_tup, fun ys e => ?_⟩
    cases e
    exact ⟨by omega, fun x hx => (h.lf x hx).dt⟩
  · rcases h.is with rfl | rfl
    · exact .tup 2 _ (fun x hx => (h.lf x hx).sd) (by omega)
    · exact .lst 2 _ (fun x hx => (h.lf x hx).sd) (by omega)
theorem one_gd {K : PySem.W.Frag} {d : D} (h1 : Dt K d) (h2 : isLstD d = false) (h3 : isTupD d = false) (h4 : SD 3 d) : Gd K d := ⟨h1, .one _ _ h1 h2 h3, by
  rw [frz_one h2 h3]
  exact ⟨h1, fun xs e => by rw [e] at h3; cases h3⟩, h4⟩
theorem bad_of {K : PySem.W.Frag} {d e : D} (h1 : Gd K d) (h2 : Gd K e) (h : isRowD d e = false) : BadPair K d e := ⟨h1.dt, h2.dt, h1.fz, h2.fz, h1.d1, h2.d1, h, h1.sd, h2.sd⟩
theorem bad_seq {K : PySem.W.Frag} {d e : D} {xs ys : List D} (h1 : Seq d xs) (h2 : Seq e ys) (h : (xs.all isIntD && ys.all isIntD && decide (xs.length = ys.length) && headOk (.tup xs)) = false) : BadPair K d e := bad_of h1.gd h2.gd (by
  unfold isRowD
  rw [h1.frz, h2.frz]
  show (_ && _ && (xs.all isIntD && ys.all isIntD && decide (xs.length = ys.length)) && headOk (.tup xs)) = false
  revert h
  generalize (xs.all isIntD && ys.all isIntD && decide (xs.length = ys.length)) = p
  generalize headOk (.tup xs) = q
  intro h
  cases p <;> cases q <;> first | exact Bool.noConfusion h | (simp))
theorem bad_left {K : PySem.W.Frag} {d e : D} (h1 : Gd K d) (h2 : Gd K e) (h3 : isLstD d = false) (h4 : isTupD d = false) : BadPair K d e := bad_of h1 h2 (by
  unfold isRowD
  rw [h3, h4]
  rfl)
theorem bad_right {K : PySem.W.Frag} {d e : D} (h1 : Gd K d) (h2 : Gd K e) (h3 : isLstD e = false) (h4 : isTupD e = false) : BadPair K d e := bad_of h1 h2 (by
  unfold isRowD
  rw [h3, h4]
  simp)
theorem bad_len {K : PySem.W.Frag} {d e : D} {xs ys : List D} (h1 : Seq d xs) (h2 : Seq e ys) (h : xs.length ≠ ys.length) : BadPair K d e := bad_seq h1 h2 (by rw [decide_eq_false h]; simp)
theorem bad_hd {K : PySem.W.Frag} {d e : D} {xs ys : List D} (h1 : Seq d xs) (h2 : Seq e ys) (h : headOk (.tup xs) = false) : BadPair K d e := bad_seq h1 h2 (by rw [h]; simp)
theorem bad_l {K : PySem.W.Frag} {d e : D} {xs ys : List D} (h1 : Seq d xs) (h2 : Seq e ys) {x : D} (hx : x ∈ xs) (h : isIntD x = false) : BadPair K d e := bad_seq h1 h2 (by
  have : xs.all isIntD = false := List.all_eq_false.mpr ⟨x, hx, by rw [h]; decide⟩
  rw [this]
  rfl)
theorem bad_r {K : PySem.W.Frag} {d e : D} {xs ys : List D} (h1 : Seq d xs) (h2 : Seq e ys) {x : D} (hx : x ∈ ys) (h : isIntD x = false) : BadPair K d e := bad_seq h1 h2 (by
  have : ys.all isIntD = false := List.all_eq_false.mpr ⟨x, hx, by rw [h]; decide⟩
  rw [this]
  simp)
theorem leaf_ints {v : List Int} : ∀ x ∈ v.map D.int, Leaf x := fun x hx => by
  obtain ⟨i, _, rfl⟩ := List.mem_map.mp hx
  exact .int i
theorem leaf_app {xs ys : List D} (h1 : ∀ x ∈ xs, Leaf x) (h2 : ∀ x ∈ ys, Leaf x) : ∀ x ∈ xs ++ ys, Leaf x := fun x hx => by
  rcases List.mem_append.mp hx with h | h
  · exact h1 x h
  · exact h2 x h
theorem leaf_one {d : D} (h : Leaf d) : ∀ x ∈ [d], Leaf x := fun x hx => by
  rw [List.mem_singleton.mp hx]
  exact h
abbrev c__law_wrong_row : Cn := fun K w ds Ψ Ξ => ∃ f S : List Int, ds = [.ptr w, rwD f S] ∧ 1 ≤ f.length ∧ f.length ≤ 8 ∧ S.length = f.length ∧ ∀ d e, BadPair K d e → Ψ (.fz (.tup [d, e]))
theorem l__law_wrong_row : ∀ K w ds Ψ Ξ, c__law_wrong_row K w ds Ψ Ξ → ds.length = 2 := fun K w ds Ψ Ξ h => by
  obtain ⟨_, _, rfl, _⟩ := h
  rfl
theorem ok__law_wrong_row {P : Program} {w : World} {K : PySem.W.Frag} {mg : Str → Option Value} {base : Heap} {A : Ad} (T : Txt K mg A) : FnOk P w K mg base CX0 3 A._law_wrong_row A.fd__law_wrong_row ["source", "row"] (SpD K IsSrc c__law_wrong_row) := by
  refine Fun.ok T.F__law_wrong_row sc__law_wrong_row (fun vs H Q E h => spd_len (l__law_wrong_row) h) (fun cdv A' outer s H vs Q E hr h => ⟨_, (pss_cons (ps_set (i := 2) sc__law_wrong_row.nd rfl (.inl rfl) (pe_callTy call_tuple_of (by rfl) T.b_tuple (by decide +kernel) (pa_cons (pe_ix ix_list (pv 1) pe_int (fun _ _ => rfl)) pa_nil)))
        (pss_cons (ps_set (i := 3) sc__law_wrong_row.nd rfl (.inl rfl) (pe_callTy call_tuple_of (by rfl) T.b_tuple (by decide +kernel) (pa_cons (pe_ix ix_list (pv 1) pe_int (fun _ _ => rfl)) pa_nil)))
        (pss_cons (ps_set (i := 4) sc__law_wrong_row.nd rfl (.inl rfl) (pe_call (ok__law_draw T) (hr.mono (by decide)) (by rfl) T.m__law_draw T.F__law_draw.kp (b__law_draw T) .nil pass0 (pa_cons (pv 0) (pa_cons (pe_callB call_len_seq (by rfl) T.b_len (by decide +kernel) (pa_cons (pv 3) pa_nil)) pa_nil))))
        (pss_cons (ps_set (i := 5) sc__law_wrong_row.nd rfl (.inl rfl) (pe_call (ok__law_pick T) (hr.mono (by decide)) (by rfl) T.m__law_pick T.F__law_pick.kp (b__law_pick T) .nil pass0 (pa_cons (pv 0) (pa_cons (pe_lst (pa_cons pe_bl (pa_cons pe_non (pa_cons pe_str (pa_cons (pe_tup (pa_cons pe_int (pa_cons pe_int pa_nil))) (pa_cons (pe_tup (pa_cons pe_int (pa_cons pe_int pa_nil))) (pa_cons pe_bl pa_nil))))))) pa_nil))))
        (pss_cons (ps_set (i := 6) sc__law_wrong_row.nd rfl (.inl rfl) (pe_lst (pa_cons (pe_tup (pa_cons (pe_op op_catA (pv 2) (pe_tup (pa_cons pe_int pa_nil))) (pa_cons (pv 3) pa_nil))) (pa_cons (pe_tup (pa_cons (pv 2) (pa_cons (pe_op op_catA (pv 3) (pe_tup (pa_cons pe_int pa_nil))) pa_nil))) (pa_cons (pe_tup (pa_cons (pv 2) (pa_cons (pe_slice sl_tupA (pv 3) (po_some pe_int) po_none) pa_nil))) (pa_cons (pe_tup (pa_cons (pe_slice sl_tupA (pv 2) po_none (po_some (pe_un un_neg pe_int))) (pa_cons (pv 3) pa_nil))) (pa_cons (pe_tup (pa_cons (pe_tup pa_nil) (pa_cons (pe_tup pa_nil) pa_nil))) pa_nil)))))))
        (pss_cons (ps_set (i := 6) sc__law_wrong_row.nd rfl (.inl rfl) (pe_op op_cat (pv 6) (pe_lst (pa_cons (pe_tup (pa_cons (pe_op op_catA (pe_tup (pa_cons pe_int pa_nil)) (pe_slice sl_tupA (pv 2) (po_some pe_int) po_none)) (pa_cons (pv 3) pa_nil))) (pa_cons (pe_tup (pa_cons (pe_op op_catA (pe_tup (pa_cons pe_int pa_nil)) (pe_slice sl_tupA (pv 2) (po_some pe_int) po_none)) (pa_cons (pv 3) pa_nil))) (pa_cons (pe_tup (pa_cons (pe_op op_catA (pe_tup (pa_cons (pe_un un_neg pe_int) pa_nil)) (pe_slice sl_tupA (pv 2) (po_some pe_int) po_none)) (pa_cons (pv 3) pa_nil))) pa_nil))))))
        (pss_cons (ps_set (i := 6) sc__law_wrong_row.nd rfl (.inl rfl) (pe_op op_cat (pv 6) (pe_lst (pa_cons (pe_tup (pa_cons (pv 2) (pa_cons (pe_op op_catA (pe_op op_catA (pe_slice sl_tupA (pv 3) po_none (po_some (pv 4))) (pe_tup (pa_cons (pv 5) pa_nil))) (pe_slice sl_tupA (pv 3) (po_some (pe_op op_add (pv 4) pe_int)) po_none)) pa_nil))) (pa_cons (pe_tup (pa_cons (pe_op op_catA (pe_op op_catA (pe_slice sl_tupA (pv 2) po_none (po_some (pv 4))) (pe_tup (pa_cons (pv 5) pa_nil))) (pe_slice sl_tupA (pv 2) (po_some (pe_op op_add (pv 4) pe_int)) po_none)) (pa_cons (pv 3) pa_nil))) pa_nil)))))
        (pss_cons (ps_set (i := 6) sc__law_wrong_row.nd rfl (.inl rfl) (pe_op op_cat (pv 6) (pe_lst (pa_cons (pe_tup (pa_cons (pe_op op_catA (pe_tup (pa_cons pe_bl pa_nil)) (pe_slice sl_tupA (pv 2) (po_some pe_int) po_none)) (pa_cons (pv 3) pa_nil))) (pa_cons (pe_tup (pa_cons pe_non (pa_cons (pv 3) pa_nil))) (pa_cons (pe_tup (pa_cons (pv 2) (pa_cons pe_non pa_nil))) (pa_cons (pe_tup (pa_cons pe_str (pa_cons pe_str pa_nil))) (pa_cons (pe_tup (pa_cons pe_int (pa_cons pe_int pa_nil))) (pa_cons (pe_tup (pa_cons (pv 2) (pa_cons pe_int pa_nil))) pa_nil)))))))))
        (pss_cons (ps_set (i := 6) sc__law_wrong_row.nd rfl (.inl rfl) (pe_op op_cat (pv 6) (pe_lst (pa_cons (pe_tup (pa_cons (pe_lst pa_nil) (pa_cons (pe_lst pa_nil) pa_nil))) (pa_cons (pe_tup (pa_cons (pe_callTy call_list_of (by rfl) T.b_list (by decide +kernel) (pa_cons (pv 2) pa_nil)) (pa_cons (pe_op op_cat (pe_callTy call_list_of (by rfl) T.b_list (by decide +kernel) (pa_cons (pv 3) pa_nil)) (pe_lst (pa_cons pe_int pa_nil))) pa_nil))) (pa_cons (pe_tup (pa_cons (pe_op op_cat (pe_lst (pa_cons (pe_tup (pa_cons pe_int (pa_cons pe_int pa_nil))) pa_nil)) (pe_callTy call_list_of (by rfl) T.b_list (by decide +kernel) (pa_cons (pe_slice sl_tupA (pv 2) (po_some pe_int) po_none) pa_nil))) (pa_cons (pv 3) pa_nil))) pa_nil))))))
        (pss_one (ps_ret (pe_call (ok__law_pick T) (hr.mono (by decide)) (by rfl) T.m__law_pick T.F__law_pick.kp (b__law_pick T) .nil pass0 (pa_cons (pv 0) (pa_cons (pv 6) pa_nil)))))))))))))), ?_⟩)
  refine body_ok 2 (by decide) (l__law_wrong_row) h (fun Γ ds Ψ Ξ hK hX hF hc ke => ?_)
  subst hK
  obtain ⟨f, S, rfl, h0, h8, hl, hc⟩ := hc
  have hat0 : atI [lI f, lI S] 0 = some (lI f) := rfl
  have hat1 : atI [lI f, lI S] 1 = some (lI S) := rfl
  refine sw_seq (sw_asg (ew_tupL rfl (ew_op (ew_var rfl (ew_int ⟨_, opv_ixL rfl hat0, _, rfl, ?_⟩)))))
  refine sw_seq (sw_asg (ew_tupL rfl (ew_op (ew_var rfl (ew_int ⟨_, opv_ixL rfl hat1, _, rfl, ?_⟩)))))
  refine sw_seq (sw_asg ?_)
  walk_at "ru"
  rw [List.length_map]
  refine ⟨by omega, by omega, fun at_ a0 a1 => ?_⟩
  refine sw_seq (sw_asg ?_)
  walk_at "ru"
  refine ⟨by decide, by decide, fun odd hodd => ?_⟩
  have hleaf : Leaf odd ∧ isIntD odd = false := by
    simp only [List.mem_cons, List.not_mem_nil, or_false] at hodd
    rcases hodd with rfl | rfl | rfl | rfl | rfl | rfl
    · exact ⟨.bl _, rfl⟩
    · exact ⟨.non, rfl⟩
    · exact ⟨.str _, rfl⟩
    · exact ⟨.pr _ _, rfl⟩
    · exact ⟨.pr _ _, rfl⟩
    · exact ⟨.bl _, rfl⟩
  clear hodd
  have sf : Seq (tI f) (f.map D.int) := ⟨.inl rfl, leaf_ints, by rw [List.length_map]; omega⟩
  have sS : Seq (tI S) (S.map D.int) := ⟨.inl rfl, leaf_ints, by rw [List.length_map]; omega⟩
  refine sw_seq (sw_asgB (eb_lst ?_))
  walk_at "rd"
  refine ⟨_, _, rfl, rfl, by rw [List.length_map]; show _ + 1 ≤ _; omega, ?_⟩
  walk_at "ru"
  refine ⟨_, _, rfl, rfl, by rw [List.length_map]; show _ + 1 ≤ _; omega, ?_⟩
  walk_at "ru"
  have hc1 : (cutD (f.map D.int) (some 1) none).length ≤ 10 := by rw [cut_one, List.length_map, List.length_tail]; omega
  have hc2 : ∀ lo hi, (cutD (S.map D.int) lo hi).length ≤ 10 := fun lo hi => by
    have := cut_len (ds := S.map D.int) (lo := lo) (hi := hi)
    rw [List.length_map] at this
    omega
  have hc3 : ∀ lo hi, (cutD (f.map D.int) lo hi).length ≤ 10 := fun lo hi => by
    have := cut_len (ds := f.map D.int) (lo := lo) (hi := hi)
    rw [List.length_map] at this
    omega
  refine sw_seq (sw_asgB (eb_catO rfl (eb_lst ?_)))
  walk_at "ru"
  refine ⟨_, _, rfl, rfl, by show 1 + _ ≤ _; omega, ?_⟩
  walk_at "ru"
  refine ⟨_, _, rfl, rfl, by show 1 + _ ≤ _; omega, ?_⟩
  walk_at "ru"
  refine ⟨_, _, rfl, rfl, by show 1 + _ ≤ _; omega, ?_⟩
  walk_at "ru"
  refine ⟨rfl, Nat.le_of_ble_eq_true rfl, ?_⟩
  refine sw_seq (sw_asgB (eb_catO rfl (eb_lst ?_)))
  walk_at "ru"
  refine ⟨_, _, rfl, rfl, by have := hc2 none (some at_); show _ + 1 ≤ _; omega, ?_⟩
  walk_at "ru"
  refine ⟨_, _, rfl, rfl, by have := hc2 none (some at_); have := hc2 (some (at_ + 1)) none; rw [List.length_append]; show _ + 1 + _ ≤ _; omega, ?_⟩
  walk_at "ru"
  refine ⟨_, _, rfl, rfl, by have := hc3 none (some at_); show _ + 1 ≤ _; omega, ?_⟩
  walk_at "ru"
  refine ⟨_, _, rfl, rfl, by have := hc3 none (some at_); have := hc3 (some (at_ + 1)) none; rw [List.length_append]; show _ + 1 + _ ≤ _; omega, ?_⟩
  walk_at "ru"
  refine ⟨rfl, Nat.le_of_ble_eq_true rfl, ?_⟩
  refine sw_seq (sw_asgB (eb_catO rfl (eb_lst ?_)))
  walk_at "ru"
  refine ⟨_, _, rfl, rfl, by show 1 + _ ≤ _; omega, ?_⟩
  walk_at "ru"
  refine ⟨rfl, Nat.le_of_ble_eq_true rfl, ?_⟩
  refine sw_seq (sw_asgB (eb_catO rfl (eb_lst ?_)))
  refine aw_cons (ew_tup (aw_cons (ew_lst (aw_nil ⟨by decide, ?_⟩))))
  refine aw_cons (ew_lst (aw_nil ⟨by decide, aw_nil ⟨by show 2 ≤ 100000; decide, ?_⟩⟩))
  refine aw_cons (ew_tup (aw_cons (ew_of_eb (eb_listL rfl (ew_var rfl ⟨_, .inr rfl, ?_⟩)))))
  refine aw_cons (ew_of_eb (eb_catE (eb_listL rfl (ew_var rfl ⟨_, .inr rfl, _, rfl, fun c => ?_⟩))))
  refine eb_lst (aw_cons (ew_int (aw_nil ⟨by show 1 ≤ 100000; decide, _, rfl, by rw [List.length_map]; show _ + 1 ≤ _; omega, ?_⟩)))
  refine aw_nil ⟨by show 2 ≤ 100000; decide, ?_⟩
  refine aw_cons (ew_tup (aw_cons (ew_of_eb (eb_catE (eb_lst (aw_cons (ew_tup ?_)))))))
  refine aw_cons (ew_int (aw_cons (ew_int (aw_nil ⟨by show 2 ≤ 100000; decide, aw_nil ⟨by show 1 ≤ 100000; decide, _, rfl, fun c => ?_⟩⟩))))
  refine eb_listL rfl (ew_cutT rfl (ew_var rfl (pw_some (ew_int ⟨_, rfl, pw_none ⟨_, rfl, _, .inr rfl, _, rfl, by show 1 + _ ≤ _; omega, ?_⟩⟩))))
  refine aw_cons (ew_var rfl (aw_nil ⟨by show 2 ≤ 100000; decide, aw_nil ⟨by show 3 ≤ 100000; decide, _, rfl, rfl, Nat.le_of_ble_eq_true rfl, ?_⟩⟩))
  refine sw_freeze (i := 6) rfl ?_
  refine sw_ret (ew_callR rfl hF (aw_cons (ew_var rfl (aw_cons (ew_var rfl (aw_nil ⟨_, rfl, Nat.le_of_ble_eq_true rfl, Nat.le_of_ble_eq_true rfl, fun x hx => ?_⟩))))))
  simp only [List.mem_append, List.mem_cons, List.not_mem_nil, or_false] at hx
  have lcf : ∀ lo hi, ∀ y ∈ cutD (f.map D.int) lo hi, Leaf y := fun lo hi y hy => leaf_ints y (mem_cut hy)
  have lcS : ∀ lo hi, ∀ y ∈ cutD (S.map D.int) lo hi, Leaf y := fun lo hi y hy => leaf_ints y (mem_cut hy)
  have lmf : (f.map D.int).length = f.length := by rw [List.length_map]
  have lmS : (S.map D.int).length = S.length := by rw [List.length_map]
  have ln1 : ∀ {a : D}, [a].length = 1 := rfl
  rcases hx with ((((rfl | rfl | rfl | rfl | rfl) | rfl | rfl | rfl) | rfl | rfl) | rfl | rfl | rfl | rfl | rfl | rfl) | rfl | rfl | rfl
  · exact hc _ _ (bad_len ⟨.inl rfl, leaf_app leaf_ints (leaf_one (.int 0)), by rw [List.length_append, lmf, ln1]; omega⟩ sS (by rw [List.length_append, lmf, lmS, ln1]; omega))
  · exact hc _ _ (bad_len sf ⟨.inl rfl, leaf_app leaf_ints (leaf_one (.int 1)), by rw [List.length_append, lmS, ln1]; omega⟩ (by rw [List.length_append, lmf, lmS, ln1]; omega))
  · rw [cut_one]
    exact hc _ _ (bad_len sf ⟨.inl rfl, leaf_ints, by rw [List.length_map, List.length_tail]; omega⟩ (by rw [lmf, List.length_map, List.length_tail]; omega))
  · rw [show (-(1 : Int)) = -1 from rfl, cut_init]
    exact hc _ _ (bad_len ⟨.inl rfl, leaf_ints, by rw [List.length_map, List.length_dropLast]; omega⟩ sS (by rw [lmS, List.length_map, List.length_dropLast]; omega))
  · exact hc _ _ (bad_hd (xs := []) (ys := []) ⟨.inl rfl, (fun x h => by cases h), by decide⟩ ⟨.inl rfl, (fun x h => by cases h), by decide⟩ rfl)
  · exact hc _ _ (bad_hd ⟨.inl rfl, leaf_app (leaf_one (.int 0)) (lcf _ _), by rw [List.length_append, ln1]; omega⟩ sS rfl)
  · exact hc _ _ (bad_hd ⟨.inl rfl, leaf_app (leaf_one (.int 2)) (lcf _ _), by rw [List.length_append, ln1]; omega⟩ sS rfl)
  · exact hc _ _ (bad_hd ⟨.inl rfl, leaf_app (leaf_one (.int (-3))) (lcf _ _), by rw [List.length_append, ln1]; omega⟩ sS rfl)
  · exact hc _ _ (bad_r sf ⟨.inl rfl, leaf_app (leaf_app (lcS _ _) (leaf_one hleaf.1)) (lcS _ _), by have := hc2 none (some at_); have := hc2 (some (at_ + 1)) none; rw [List.length_append, List.length_append, ln1]; omega⟩ (x := odd) (List.mem_append_left _ (List.mem_append_right _ List.mem_cons_self)) hleaf.2)
  · exact hc _ _ (bad_l ⟨.inl rfl, leaf_app (leaf_app (lcf _ _) (leaf_one hleaf.1)) (lcf _ _), by have := hc3 none (some at_); have := hc3 (some (at_ + 1)) none; rw [List.length_append, List.length_append, ln1]; omega⟩ sS (x := odd) (List.mem_append_left _ (List.mem_append_right _ List.mem_cons_self)) hleaf.2)
  · exact hc _ _ (bad_l ⟨.inl rfl, leaf_app (leaf_one (.bl true)) (lcf _ _), by rw [List.length_append, ln1]; omega⟩ sS (x := .bl true) (List.mem_append_left _ List.mem_cons_self) rfl)
  · exact hc _ _ (bad_left (one_gd dt_non rfl rfl (.non 3)) sS.gd rfl rfl)
  · exact hc _ _ (bad_right sf.gd (one_gd dt_non rfl rfl (.non 3)) rfl rfl)
  · exact hc _ _ (bad_left (one_gd dt_str rfl rfl (.str 3 _)) (one_gd dt_str rfl rfl (.str 3 _)) rfl rfl)
  · exact hc _ _ (bad_left (one_gd dt_int rfl rfl (.int 3 _)) (one_gd dt_int rfl rfl (.int 3 _)) rfl rfl)
  · exact hc _ _ (bad_right sf.gd (one_gd dt_int rfl rfl (.int 3 _)) rfl rfl)
  · exact hc _ _ (bad_hd (xs := []) (ys := []) ⟨.inr rfl, (fun x h => by cases h), by decide⟩ ⟨.inr rfl, (fun x h => by cases h), by decide⟩ rfl)
  · exact hc _ _ (bad_len ⟨.inr rfl, leaf_ints, by omega⟩ ⟨.inr rfl, leaf_app leaf_ints (leaf_one (.int 2)), by rw [List.length_append, lmS, ln1]; omega⟩ (by rw [List.length_append, lmf, lmS, ln1]; omega))
  · exact hc _ _ (bad_l ⟨.inr rfl, leaf_app (leaf_one (.pr 1 1)) (lcf _ _), by rw [List.length_append, ln1]; omega⟩ sS (x := .tup [.int 1, .int 1]) (List.mem_append_left _ List.mem_cons_self) rfl)
end Pf

namespace Pf
open PySem L2 Dl Sh
open Evl (Ex)
open Ry
local macro_rules | `(tactic| walk_at "r0") => `(tactic| with_reducible first
  | refine sw_seq ?_
  | refine ew_var rfl ?_
  | refine ew_int ?_
  | refine ew_bl ?_
  | refine ew_non ?_
  | refine ew_str ?_
  | refine aw_cons ?_
  | refine aw_nil ?_
  | refine sw_par ?_
  | refine sw_next ?_
  | refine sw_if ?_
  | refine sw_ret ?_
  | refine tw_not ?_
  | refine tw_and ?_
  | refine tw_or ?_
  | refine tw_test ?_
  | refine tw_B ?_
  | refine tw_tru rfl ?_
  | refine ew_andV ?_
  | refine ew_orV ?_
  | refine ew_notV ?_
  | refine ew_if ?_
  | refine ew_chain ?_
  | refine ew_isN ?_
  | refine ew_tup ?_
  | refine ew_lst ?_
  | refine ew_isiD isN_int rfl ?_
  | refine ew_isiD isN_bool rfl ?_
  | refine ew_isiD isN_tuple rfl ?_
  | refine ew_isiD isN_list rfl ?_
  | refine ew_isiD isN_str rfl ?_
  | refine ew_isi2D isN_list isN_tuple rfl ?_
  | refine ew_isi2D isN_tuple isN_list rfl ?_
  | refine ew_cb ?_
  | refine ew_neg ?_
  | refine ew_op ?_
  | refine ⟨_, opv_int, ?_⟩
  | refine ⟨_, opv_cmp, ?_⟩
  | refine ⟨_, opv_eq, ?_⟩
  | refine ⟨_, opv_ne, ?_⟩
  | refine ⟨_, opv_eqB, ?_⟩
  | refine ⟨_, opv_eqS, ?_⟩
  | refine ⟨_, cbv_abs, ?_⟩
  | refine ⟨_, cbv_max2, ?_⟩
  | refine ⟨_, cbv_min2, ?_⟩
  | refine pw_none ?_
  | refine pw_some ?_
  | refine ⟨_, cbv_int, ?_⟩
  | refine ⟨_, rfl, ?_⟩
  | refine ⟨_, _, rfl, ?_⟩
  | refine ⟨_, _, _, rfl, ?_⟩
  | refine ⟨_, _, _, _, rfl, ?_⟩
  | refine br_t ?_
  | refine br_f ?_
  | refine ⟨dt_int, ?_⟩
  | refine ⟨dt_bl, ?_⟩
  | refine ⟨dt_str, ?_⟩
  | refine ⟨dt_non, ?_⟩
  | refine ⟨dt_tup, ?_⟩
  | refine ⟨dt_lst, ?_⟩
  | refine sw_asg ?_
  | refine sw_drop ?_)
local macro_rules | `(tactic| walk_at "r1") => `(tactic| first
  | ((with_reducible refine ew_tupL ?hK ?_); (case hK => rfl))
  | ((with_reducible refine ew_catT ?hK ?_); (case hK => rfl))
  | ((with_reducible refine ew_repT ?hK ?_); (case hK => rfl))
  | ((with_reducible refine ew_of_eb (eb_listL ?hK ?_)); (case hK => rfl))
  | ((with_reducible refine ew_of_eb (eb_cutL ?hK ?_)); (case hK => rfl))
  | walk_at "r0"
  | ((with_reducible refine ew_of_eb (eb_mapT ?hV ?hK ?_)); (case hK => rfl); (case hV => rfl))
  | ((with_reducible refine ew_of_eb (eb_mapL ?hV ?hK ?_)); (case hK => rfl); (case hV => rfl))
  | ((with_reducible refine ew_of_eb (eb_mapR ?hV ?_)); (case hV => rfl))
  | ((with_reducible refine ew_callP ?hK trivial ?_); (case hK => rfl))
  | ((with_reducible refine ew_callW ?hK trivial ?_); (case hK => rfl))
  | ((with_reducible refine ew_callH ?hK trivial ?_); (case hK => rfl))
  | ((with_reducible refine ew_callR ?hK ?hF ?_); (case hK => rfl); (case hF => assumption))
  | ((with_reducible refine len_ok ?hK ?_); (case hK => rfl))
  | ((with_reducible refine ew_notT ?hK ?_); (case hK => rfl))
  | ((with_reducible refine ew_cutT ?hK ?_); (case hK => rfl))
  | ((with_reducible refine ⟨(?hK : Dt _ _), ?_⟩); (case hK => assumption))
  | ((with_reducible refine sw_unp2 ?hK ?hn ?_); (case hK => rfl); (case hn => rfl)))
local macro_rules | `(tactic| walk_at "side") => `(tactic| first
  | exact Or.inr (by decide)
  | exact Or.inl (by decide)
  | exact ⟨by decide, by decide⟩
  | exact ⟨by decide, by decide, by decide⟩
  | decide
  | (dsimp only; decide)
  | exact mw (by assumption) (by assumption))
local macro_rules | `(tactic| walk_at "r2") => `(tactic| first
  | walk_at "r1"
  | ((with_reducible refine ⟨_, opv_intC ?hC, ?_⟩); (case hC => walk_at "side"))
  | ((with_reducible refine ⟨_, cbv_lenL ?hK, ?_⟩); (case hK => rfl))
  | ((with_reducible refine ⟨_, cbv_allM ?hK, ?_⟩); (case hK => rfl))
  | ((with_reducible refine ⟨_, cbv_anyM ?hK, ?_⟩); (case hK => rfl))
  | ((with_reducible refine ⟨_, cbv_sumM ?hK, ?_⟩); (case hK => rfl))
  | ((with_reducible refine ⟨_, cbv_lenT ?hK, ?_⟩); (case hK => rfl))
  | (with_reducible refine ⟨_, opv_ixT (by with_unfolding_all rfl) (by with_unfolding_all rfl), ?_⟩)
  | refine br_t ?_
  | refine br_f ?_)
local macro_rules | `(tactic| walk_at "rd") => `(tactic| repeat (walk_at "r2"))
local macro_rules | `(tactic| walk_at "rs") => `(tactic| repeat ((fail_if_success (with_reducible refine sw_isif ?_)); walk_at "r2"))
local macro_rules | `(tactic| walk_at "nf") => `(tactic| (try simp only [List.set_cons_zero, List.set_cons_succ, Dl.sets, Dl.asD]))
local macro_rules | `(tactic| walk_at "ru") => `(tactic| repeat ((fail_if_success (with_reducible refine sw_seq ?_)); walk_at "r2"))

/-- rows as they are drawn and made -/
structure LRow (f S : List Int) : Prop where
  r : ROk f S
  l5 : f.length ≤ 5
  b : Big 20 S
theorem sm5_big {v : List Int} (h : Sm5 v) : Big 20 v := fun x hx => by
  have := h x hx
  have e : (2 : Nat) ^ 20 = 1048576 := by decide
  omega
theorem drawn_row {f S : List Int} (h : DrawnR f S) : LRow f S := by
  have h0 := h.l0
  have h1 := h.l1
  have hl := h.l
  refine ⟨⟨⟨fun e => ?_, by omega, ?_, sm5_big h.sf⟩, h.l, big_mono (sm5_big h.sS) (by decide)⟩, h.l1, sm5_big h.sS⟩
  · rw [e] at h0
    simp at h0
  · rcases h.u with e | e
    · rw [e]
      rfl
    · rw [e]
      rfl
theorem turn_turn {f : List Int} (hf : FOk f) : turnF (turnF f) = f := by
  have hne := hf.ne
  have hu := hf.unit
  cases f with
  | nil => exact absurd rfl hne
  | cons a f =>
    have hu : a * a = 1 := hu
    show a :: (f.reverse.map fun x => -a * x).reverse.map (fun x => -a * x) = a :: f
    rw [List.map_reverse, List.map_map, List.map_reverse, List.reverse_reverse]
    congr 1
    conv => rhs; rw [← List.map_id f]
    apply List.map_congr_left
    intro x _
    show -a * (-a * x) = x
    have : -a * (-a * x) = a * a * x := by grind
    rw [this, hu, Int.one_mul]
theorem ev_rev {w : Int → Int} : ∀ {g : List Int} {j : Int}, Rw.ev g.reverse (fun k => w (-k)) j = Rw.ev g w (1 - j - (g.length : Int))
  | [], _ => rfl
  | x :: g, j => by
    rw [List.reverse_cons, Rw.ev_app, ev_rev (g := g), List.length_reverse]
    show Rw.ev g w (1 - j - (g.length : Int)) + (x * w (-(j + (g.length : Int))) + 0) = x * w (1 - j - ((g.length + 1 : Nat) : Int)) + Rw.ev g w (1 - j - ((g.length + 1 : Nat) : Int) + 1)
    rw [show 1 - j - ((g.length + 1 : Nat) : Int) = -(j + (g.length : Int)) by omega, show -(j + (g.length : Int)) + 1 = 1 - j - (g.length : Int) by omega]
    omega
theorem ev_mul {c : Int} {w : Int → Int} : ∀ {g : List Int} {j : Int}, Rw.ev (g.map fun x => c * x) w j = c * Rw.ev g w j
  | [], _ => (Int.mul_zero c).symm
  | x :: g, j => by
    show c * x * w j + Rw.ev (g.map fun x => c * x) w (j + 1) = c * (x * w j + Rw.ev g w (j + 1))
    rw [ev_mul (g := g)]
    grind
/-- the recurrence read the other way -/
theorem turn_rec {f : List Int} {w : Int → Int} (hf : FOk f) (h : Rw.Rec f w) : Rw.Rec (turnF f) (fun k => w (-k)) := fun k => by
  have hne := hf.ne
  have hu := hf.unit
  rw [turn_len hf]
  cases f with
  | nil => exact absurd rfl hne
  | cons a g =>
    have hu : a * a = 1 := hu
    have h1 := h (-(k + ((a :: g).length : Int)))
    rw [show -(k + ((a :: g).length : Int)) + ((a :: g).length : Int) = -k by omega] at h1
    have h2 : Rw.ev (a :: g) w (-(k + ((a :: g).length : Int))) = a * w (-(k + ((a :: g).length : Int))) + Rw.ev g w (-(k + ((a :: g).length : Int)) + 1) := rfl
    rw [h2] at h1
    show w (-(k + ((a :: g).length : Int))) = a * w (-k) + Rw.ev (g.reverse.map fun x => -a * x) (fun k => w (-k)) (k + 1)
    rw [ev_mul, ev_rev]
    have e3 : -(k + ((a :: g).length : Int)) + 1 = 1 - (k + 1) - (g.length : Int) := by
      rw [List.length_cons]
      omega
    rw [e3] at h1
    rw [h1]
    generalize w (-(k + ((a :: g).length : Int))) = u
    generalize Rw.ev g w (1 - (k + 1) - (g.length : Int)) = v
    have : a * (a * u + v) + -a * v = a * a * u := by grind
    rw [this, hu, Int.one_mul]
theorem turn_sq {f S : List Int} (hr : ROk f S) (k : Int) : Rw.sq (turnF f) (bterms f S f.length) k = Rw.sq f S (-k) := by
  have hb : (bterms f S f.length).length = (turnF f).length := by rw [bterms_len, turn_len hr.fok]
  have := rec_sq (f := turnF f) (S := bterms f S f.length) (w := fun k => Rw.sq f S (-k)) (turn_ok hr.fok) hb (turn_rec hr.fok (Rw.sq_rec hr.fok.unit hr.l hr.fok.ne)) (fun i hi => ?_) k
  · exact this.symm
  · rw [turn_len hr.fok] at hi
    unfold bterms
    rw [List.getD_eq_getElem?_getD, List.getElem?_map, List.getElem?_range hi]
    rfl
theorem move_sq {f S : List Int} (hr : ROk f S) (a k : Int) : Rw.sq f (moveL f S a) k = Rw.sq f S (a + k) := by
  have := rec_sq (f := f) (S := moveL f S a) (w := fun k => Rw.sq f S (a + k)) hr.fok move_len (fun k => ?_) (fun i hi => ?_) k
  · exact this.symm
  · have := Rw.sq_rec hr.fok.unit hr.l hr.fok.ne (a + k)
    show Rw.sq f S (a + (k + (f.length : Int))) = _
    rw [← Int.add_assoc, this]
    have e := Rw.ev_shift (v := f) (w := Rw.sq f S) (a := a) (j := k)
    rw [Int.add_comm a k, ← e]
    congr 1
    funext i
    rw [Int.add_comm]
  · unfold moveL
    rw [List.getD_eq_getElem?_getD, List.getElem?_map, List.getElem?_range hi]
    rfl
theorem turn_row {f S : List Int} (h : LRow f S) : ROk (turnF f) (bterms f S f.length) := ⟨turn_ok h.r.fok, by rw [bterms_len, turn_len h.r.fok], fun x hx => by
  obtain ⟨j, hj, rfl⟩ := List.mem_map.mp hx
  have := List.mem_range.mp hj
  have h5 := h.l5
  exact pow_up (sq_big h.r.fok h.b _) (by omega)⟩
theorem move_row {f S : List Int} (h : LRow f S) {a : Int} (ha : a.natAbs ≤ 30) : ROk f (moveL f S a) := ⟨h.r.fok, move_len, fun x hx => by
  obtain ⟨j, hj, rfl⟩ := List.mem_map.mp hx
  have := List.mem_range.mp hj
  have h5 := h.l5
  exact pow_up (sq_big h.r.fok h.b _) (by omega)⟩
theorem turn_back {f S : List Int} (h : LRow f S) : bterms (turnF f) (bterms f S f.length) (turnF f).length = S := by
  conv => rhs; rw [← seg_first h.r.fok h.r.l]
  unfold segL
  rw [turn_len h.r.fok]
  unfold bterms
  apply List.map_congr_left
  intro i hi
  have := turn_sq h.r (-(i : Int))
  unfold bterms at this
  rw [this, Int.neg_neg, Int.zero_add]
abbrev c__law_terms_right (A : Ad) : Cn := fun K w ds Ψ Ξ => ∃ (f S : List Int) (n : Nat), ds = [.ptr w, rwD f S, rowD A f S, lI (winL f S n), .int n] ∧ LRow f S ∧ 20 ≤ n ∧ n ≤ 40 ∧ Ψ (.fz (.bl true))
theorem l__law_terms_right (A : Ad) : ∀ K w ds Ψ Ξ, (c__law_terms_right A) K w ds Ψ Ξ → ds.length = 5 := fun K w ds Ψ Ξ h => by
  obtain ⟨_, _, _, rfl, _⟩ := h
  rfl
theorem ok__law_terms_right {P : Program} {w : World} {K : PySem.W.Frag} {mg : Str → Option Value} {base : Heap} {A : Ad} (T : Txt K mg A) : FnOk P w K mg base CX0 10 A._law_terms_right A.fd__law_terms_right ["source", "row", "made", "window", "far"] (SpD K IsSrc (c__law_terms_right A)) := by
  refine Fun.ok T.F__law_terms_right sc__law_terms_right (fun vs H Q E h => spd_len (l__law_terms_right A) h) (fun cdv A' outer s H vs Q E hr h => ⟨_, (pss_cons (ps_set (i := 5) sc__law_terms_right.nd rfl (.inl rfl) (pe_callB call_len_seq (by rfl) T.b_len (by decide +kernel) (pa_cons (pe_ix ix_list (pv 1) pe_int (fun _ _ => rfl)) pa_nil)))
        (pss_cons (ps_for PassesOwn.never rfl (pi_range1 (by rfl) T.b_range (pa_cons pe_int pa_nil)) (pg_name (i := 6) sc__law_terms_right.nd rfl (.inl rfl)) (pss_cons (ps_set (i := 7) sc__law_terms_right.nd rfl (.inl rfl) (pe_op op_sub (pe_call (ok__law_draw T) (hr.mono (by decide)) (by rfl) T.m__law_draw T.F__law_draw.kp (b__law_draw T) .nil pass0 (pa_cons (pv 0) (pa_cons (pe_op op_add (pe_op op_mul pe_int (pv 4)) pe_int) pa_nil))) (pv 4)))
        (pss_one (ps_if (pt_not (pt_val (pe_call (ok__law_same T) (hr.mono (by decide)) (by rfl) T.m__law_same T.F__law_same.kp (b__law_same T) .nil pass0 (pa_cons (pe_meth (pv 2) T.cl_Row T.me_Row__term (ok_Row__term T) (hr.mono (by decide)) (b_Row__term T) .nil passLN (pa_cons (pv 7) pa_nil)) (pa_cons (pe_ix ix_list (pv 3) (pe_op op_add (pv 4) (pv 7)) (fun _ _ => rfl)) pa_nil))))) (pss_one (ps_ret pe_bl)) pss_nil))))
        (pss_cons (ps_set (i := 8) sc__law_terms_right.nd rfl (.inr rfl) (pe_op op_sub (pe_call (ok__law_draw T) (hr.mono (by decide)) (by rfl) T.m__law_draw T.F__law_draw.kp (b__law_draw T) .nil pass0 (pa_cons (pv 0) (pa_cons pe_int pa_nil))) pe_int))
        (pss_cons (ps_set (i := 9) sc__law_terms_right.nd rfl (.inl rfl) (pe_meth (pv 2) T.cl_Row T.me_Row__moved (ok_Row__moved T) (hr.mono (by decide)) (b_Row__moved T) .nil passLN (pa_cons (pv 8) pa_nil)))
        (pss_cons (ps_if (pt_not (pt_val (pe_call (ok__law_is T) (hr.mono (by decide)) (by rfl) T.m__law_is T.F__law_is.kp (b__law_is T) .nil pass0 (pa_cons (pv 9) (pa_cons (pe_lst (pa_cons (pe_ix ix_list (pv 1) pe_int (fun _ _ => rfl)) (pa_cons (pe_lc (own := [("j", 10)]) (by rfl) sc__law_terms_right.nd (pi_range1 (by rfl) T.b_range (pa_cons (pv 5) pa_nil)) (blkOk_by (own := [("j", 10)]) (N := ["source", "row", "made", "window", "far", "d", "step", "k", "shift", "moved", "j", "turned", "back"]) (sc := defScope s__law_terms_right) (by decide +kernel)) (fun _ _ _ _ _ => (pg_name (i := 10) sc__law_terms_right.nd rfl (.inl rfl))) (fun _ _ _ _ _ => pts_nil) (fun _ _ _ _ _ => (pe_ix (by exact (show IxR _ (rIxL K) from ix_list)) (pv 3) (pe_op op_add (pe_op op_add (pv 4) (pv 8)) (pv 10)) (fun _ _ => rfl)))) pa_nil))) pa_nil))))) (pss_one (ps_ret pe_bl)) pss_nil)
        (pss_cons (ps_set (i := 11) sc__law_terms_right.nd rfl (.inl rfl) (pe_meth0 (pv 2) T.cl_Row T.me_Row__turned (ok_Row__turned T) (hr.mono (by decide)) (b_Row__turned T) .nil pass0))
        (pss_cons (ps_if (PW.pt (pw_or (pt_not (pt_val (pe_call (ok__law_is T) (hr.mono (by decide)) (by rfl) T.m__law_is T.F__law_is.kp (b__law_is T) .nil pass0 (pa_cons (pv 11) (pa_cons (pe_call (ok__law_turned T) (hr.mono (by decide)) (by rfl) T.m__law_turned T.F__law_turned.kp (b__law_turned T) .nil pass0 (pa_cons (pv 1) (pa_cons (pv 3) (pa_cons (pv 4) pa_nil)))) pa_nil))))) (pw_or1 (pt_not (pt_val (pe_call (ok__law_is T) (hr.mono (by decide)) (by rfl) T.m__law_is T.F__law_is.kp (b__law_is T) .nil pass0 (pa_cons (pe_meth0 (pv 11) T.cl_Row T.me_Row__turned (ok_Row__turned T) (hr.mono (by decide)) (b_Row__turned T) .nil pass0) (pa_cons (pv 1) pa_nil)))))))) (pss_one (ps_ret pe_bl)) pss_nil)
        (pss_cons (ps_for PassesOwn.never rfl (pi_range1 (by rfl) T.b_range (pa_cons pe_int pa_nil)) (pg_name (i := 6) sc__law_terms_right.nd rfl (.inl rfl)) (pss_cons (ps_set (i := 10) sc__law_terms_right.nd rfl (.inl rfl) (pe_op op_sub (pe_call (ok__law_draw T) (hr.mono (by decide)) (by rfl) T.m__law_draw T.F__law_draw.kp (b__law_draw T) .nil pass0 (pa_cons (pv 0) (pa_cons pe_int pa_nil))) pe_int))
        (pss_one (ps_if (PW.pt (pw_or (pt_not (pt_val (pe_call (ok__law_same T) (hr.mono (by decide)) (by rfl) T.m__law_same T.F__law_same.kp (b__law_same T) .nil pass0 (pa_cons (pe_methKS (pv 9) T.cl_Row T.me_Row__term (ok_Row__term T) (hr.mono (by decide)) (kb_Row__term_1_k T) (passesAt passLN) (pk_cons (pv 10) pk_nil)) (pa_cons (pe_ix ix_list (pv 3) (pe_op op_add (pe_op op_add (pv 4) (pv 8)) (pv 10)) (fun _ _ => rfl)) pa_nil))))) (pw_or1 (pt_not (pt_val (pe_call (ok__law_same T) (hr.mono (by decide)) (by rfl) T.m__law_same T.F__law_same.kp (b__law_same T) .nil pass0 (pa_cons (pe_meth (pv 11) T.cl_Row T.me_Row__term (ok_Row__term T) (hr.mono (by decide)) (b_Row__term T) .nil passLN (pa_cons (pv 10) pa_nil)) (pa_cons (pe_ix ix_list (pv 3) (pe_op op_sub (pv 4) (pv 10)) (fun _ _ => rfl)) pa_nil)))))))) (pss_one (ps_ret pe_bl)) pss_nil))))
        (pss_cons (ps_set (i := 12) sc__law_terms_right.nd rfl (.inl rfl) (pe_meth0 (pv 9) T.cl_Row T.me_Row__turned (ok_Row__turned T) (hr.mono (by decide)) (b_Row__turned T) .nil pass0))
        (pss_one (ps_ret (pe_and (pe_call (ok__law_same T) (hr.mono (by decide)) (by rfl) T.m__law_same T.F__law_same.kp (b__law_same T) .nil pass0 (pa_cons (pe_meth (pv 12) T.cl_Row T.me_Row__term (ok_Row__term T) (hr.mono (by decide)) (b_Row__term T) .nil passLN (pa_cons pe_int pa_nil)) (pa_cons (pe_ix ix_list (pv 3) (pe_op op_sub (pe_op op_add (pv 4) (pv 8)) pe_int) (fun _ _ => rfl)) pa_nil))) (pe_one (pe_call (ok__law_is T) (hr.mono (by decide)) (by rfl) T.m__law_is T.F__law_is.kp (b__law_is T) .nil pass0 (pa_cons (pv 2) (pa_cons (pv 1) pa_nil)))))))))))))))), ?_⟩)
  refine body_ok 5 (by decide) (l__law_terms_right A) h (fun Γ ds Ψ Ξ hK hX hF hc ke => ?_)
  subst hK
  obtain ⟨f, S, n, rfl, hL, n0, n1, hc⟩ := hc
  have hr := hL.r
  have h5 := hL.l5
  have hp := List.length_pos_iff.mpr hr.fok.ne
  have hat0 : atI [lI f, lI S] 0 = some (lI f) := rfl
  have hwl : (winL f S n).length = 2 * n + 1 := win_len
  refine sw_seq (sw_asg (ew_cb (aw_cons (ew_op (ew_var rfl (ew_int ⟨_, opv_ixL rfl hat0, aw_nil ⟨_, cbv_lenL rfl, ?_⟩⟩))))))
  rw [List.length_map]
  refine sw_seq (sw_forR (aw_cons (ew_int (aw_nil ⟨_, rfl, by decide, fun i ρ => ∃ c6 c7 : Option B, ρ = [some (.fz (.ptr Γ.R.w)), some (.fz (rwD f S)), some (.fz (rowD A f S)), some (.fz (lI (winL f S n))), some (.fz (.int n)), some (.fz (.int f.length)), c6, c7, none, none, none, none, none], ⟨none, none, rfl⟩, ?_, ?_⟩))))
  · rintro i ρ2 hi ⟨c6, c7, rfl⟩
    refine ⟨_, gd_name, ?_⟩
    refine sw_seq (sw_asg (ew_op ?_))
    walk_at "ru"
    refine ⟨by omega, by omega, fun d d0 d1 => ?_⟩
    refine ew_var rfl ⟨_, opv_int, ?_⟩
    refine sw_if (tw_not (tw_B (ew_callP rfl trivial (aw_cons (ew_meth rfl trivial (ew_var rfl ⟨_, rfl, rfl, aw_cons (ew_var rfl (aw_nil ⟨f, S, _, rfl, dt_int, hr, fun i e => ?_, (fun z => by cases z)⟩))⟩))))))
    obtain rfl := D.int.inj e
    refine ⟨by omega, ?_⟩
    refine aw_cons (ew_op (ew_var rfl ?_))
    refine ew_op (ew_var rfl (ew_var rfl ⟨_, opv_int, _, opv_ixIL rfl (by omega) (by omega), ?_⟩))
    rw [win_get (by omega) (by omega)]
    exact aw_nil (same_in (.int _ _) ⟨_, rfl, (fun z => by cases z), fun _ => sw_next ⟨_, _, rfl⟩⟩)
  · rintro ρ2 ⟨c6, c7, rfl⟩
    refine sw_seq (sw_asg (ew_op ?_))
    walk_at "ru"
    refine ⟨by decide, by decide, fun dd d0 d1 => ?_⟩
    walk_at "ru"
    generalize hsh : dd - 9 = sh
    have hm := move_row hL (a := sh) (by omega)
    refine sw_seq (sw_asg (ew_meth rfl trivial (ew_var rfl ⟨_, rfl, rfl, aw_cons (ew_var rfl (aw_nil ⟨f, S, _, rfl, dt_int, hr, fun i e => ?_, (fun z => by cases z)⟩))⟩)))
    obtain rfl := D.int.inj e
    refine ⟨by omega, ?_⟩
    refine sw_seq (sw_if (tw_not (tw_B (ew_callP rfl trivial (aw_cons (ew_var rfl (aw_cons (ew_lst ?_))))))))
    refine aw_cons (ew_op (ew_var rfl (ew_int ⟨_, opv_ixL rfl hat0, ?_⟩)))
    refine aw_cons (ew_of_eb (eb_mapR rfl (aw_cons (ew_var rfl (aw_nil ⟨_, rfl, by omega, (fun es z => by cases z), by rw [rngD_len]; omega, winP f (moveL f S sh), fun x hx c => ?_, ?_⟩)))))
    · rw [Int.toNat_natCast] at hx
      obtain ⟨i, hi, rfl⟩ := rng_mem hx
      refine ew_op (ew_var rfl (ew_op (ew_op (ew_var rfl (ew_var rfl ⟨_, opv_int, ?_⟩)))))
      refine ew_var rfl ⟨_, opv_int, _, opv_ixIL rfl (by omega) (by omega), rfl, ?_⟩
      have := win_get (f := f) (S := S) (n := n) (k := sh + (i : Int)) (by omega) (by omega)
      rw [← Int.add_assoc] at this
      rw [this, ← move_sq hr]
      rfl
    · have e5 : (rngD (f.length : Int).toNat).map (winP f (moveL f S sh)) = (moveL f S sh).map D.int := by
        rw [Int.toNat_natCast, rng_map]
        conv => rhs; rw [← seg_first hr.fok hm.l]
        unfold segL
        rw [List.map_map]
        apply List.map_congr_left
        intro i _
        show D.int (Rw.sq f (moveL f S sh) (i : Int)) = D.int (Rw.sq f (moveL f S sh) (0 + (i : Int)))
        rw [Int.zero_add]
      rw [e5]
      refine aw_nil ⟨by show 2 ≤ 100000; decide, aw_nil ⟨f, moveL f S sh, rfl, by omega, by rw [hm.l]; omega, _, rfl, (fun z => by cases z), fun _ => sw_next ?_⟩⟩
      refine sw_seq (sw_asg (ew_meth rfl trivial (ew_var rfl ⟨_, rfl, rfl, aw_nil ⟨f, S, rfl, hr, ?_⟩⟩)))
      have ht := turn_row hL
      refine sw_seq (sw_if (tw_or (tw_not (tw_B (ew_callP rfl trivial (aw_cons (ew_var rfl ?_)))))))
      refine aw_cons (ew_callP rfl trivial (aw_cons (ew_var rfl (aw_cons (ew_var rfl (aw_cons (ew_var rfl (aw_nil ⟨f, S, n, rfl, hr, by omega, by omega, ?_⟩))))))))
      refine aw_nil ⟨turnF f, bterms f S f.length, rfl, by rw [turn_len hr.fok]; omega, by rw [bterms_len]; omega, _, rfl, (fun z => by cases z), fun _ => ?_⟩
      refine tw_not (tw_B (ew_callP rfl trivial (aw_cons (ew_meth rfl trivial (ew_var rfl ⟨_, rfl, rfl, aw_nil ⟨turnF f, bterms f S f.length, rfl, ht, ?_⟩⟩)))))
      rw [turn_turn hr.fok, turn_back hL]
      refine aw_cons (ew_var rfl (aw_nil ⟨f, S, rfl, by omega, by rw [hr.l]; omega, _, rfl, (fun z => by cases z), fun _ => sw_next ?_⟩))
      refine sw_seq (sw_forR (aw_cons (ew_int (aw_nil ⟨_, rfl, by decide, fun i ρ => ∃ c6 c7 c10 : Option B, ρ = [some (.fz (.ptr Γ.R.w)), some (.fz (rwD f S)), some (.fz (rowD A f S)), some (.fz (lI (winL f S n))), some (.fz (.int n)), some (.fz (.int f.length)), c6, c7, some (.fz (.int sh)), some (.fz (rowD A f (moveL f S sh))), c10, some (.fz (rowD A (turnF f) (bterms f S f.length))), none], ⟨c6, c7, none, rfl⟩, ?_, ?_⟩))))
      · rintro i ρ2 hi ⟨c6, c7, c10, rfl⟩
        refine ⟨_, gd_name, ?_⟩
        refine sw_seq (sw_asg (ew_op ?_))
        walk_at "ru"
        refine ⟨by decide, by decide, fun d d0 d1 => ?_⟩
        refine ew_int ⟨_, opv_int, ?_⟩
        generalize hj : d - 10 = j
        refine sw_if (tw_or (tw_not (tw_B (ew_callP rfl trivial (aw_cons (ew_methW rfl trivial (ew_var rfl ⟨_, rfl, rfl, aw_cons (ew_var rfl (aw_nil ⟨f, moveL f S sh, _, rfl, dt_int, hm, fun i e => ?_, (fun z => by cases z)⟩))⟩)))))))
        obtain rfl := D.int.inj e
        refine ⟨by omega, ?_⟩
        refine aw_cons (ew_op (ew_var rfl ?_))
        refine ew_op (ew_op (ew_var rfl (ew_var rfl ⟨_, opv_int, ?_⟩)))
        refine ew_var rfl ⟨_, opv_int, _, opv_ixIL rfl (by omega) (by omega), ?_⟩
        have e1 := win_get (f := f) (S := S) (n := n) (k := sh + j) (by omega) (by omega)
        rw [← Int.add_assoc] at e1
        rw [e1, move_sq hr]
        refine aw_nil (same_in (.int _ _) ⟨_, rfl, (fun z => by cases z), fun _ => ?_⟩)
        refine tw_not (tw_B (ew_callP rfl trivial (aw_cons (ew_meth rfl trivial (ew_var rfl ⟨_, rfl, rfl, aw_cons (ew_var rfl (aw_nil ⟨turnF f, bterms f S f.length, _, rfl, dt_int, ht, fun i e => ?_, (fun z => by cases z)⟩))⟩)))))
        obtain rfl := D.int.inj e
        refine ⟨by omega, ?_⟩
        refine aw_cons (ew_op (ew_var rfl ?_))
        refine ew_op (ew_var rfl (ew_var rfl ⟨_, opv_int, _, opv_ixIL rfl (by omega) (by omega), ?_⟩))
        have e2 := win_get (f := f) (S := S) (n := n) (k := -j) (by omega) (by omega)
        rw [← Int.sub_eq_add_neg] at e2
        rw [e2, turn_sq hr]
        exact aw_nil (same_in (.int _ _) ⟨_, rfl, (fun z => by cases z), fun _ => sw_next ⟨_, _, _, rfl⟩⟩)
      · rintro ρ2 ⟨c6, c7, c10, rfl⟩
        have hmb : Big 600 (moveL f S sh) := fun x hx => by
          obtain ⟨j, hj, rfl⟩ := List.mem_map.mp hx
          have := List.mem_range.mp hj
          exact pow_up (sq_big hr.fok hL.b _) (by omega)
        have hbk : ROk (turnF f) (bterms f (moveL f S sh) f.length) := ⟨turn_ok hr.fok, by rw [bterms_len, turn_len hr.fok], fun x hx => by
          obtain ⟨j, hj, rfl⟩ := List.mem_map.mp hx
          have := List.mem_range.mp hj
          exact pow_up (sq_big hr.fok hmb _) (by omega)⟩
        refine sw_seq (sw_asg (ew_meth rfl trivial (ew_var rfl ⟨_, rfl, rfl, aw_nil ⟨f, moveL f S sh, rfl, hm, ?_⟩⟩)))
        refine sw_ret (ew_andV (ew_callP rfl trivial (aw_cons (ew_meth rfl trivial (ew_var rfl ⟨_, rfl, rfl, aw_cons (ew_int (aw_nil ⟨turnF f, _, _, rfl, dt_int, hbk, fun i e => ?_, (fun z => by cases z)⟩))⟩)))))
        obtain rfl := D.int.inj e
        refine ⟨by decide, ?_⟩
        refine aw_cons (ew_op (ew_var rfl ?_))
        refine ew_op (ew_op (ew_var rfl (ew_var rfl ⟨_, opv_int, ?_⟩)))
        refine ew_int ⟨_, opv_int, _, opv_ixIL rfl (by omega) (by omega), ?_⟩
        have e1 := win_get (f := f) (S := S) (n := n) (k := sh + -7) (by omega) (by omega)
        rw [← Int.add_assoc, ← Int.sub_eq_add_neg] at e1
        rw [e1, turn_sq hm, move_sq hr]
        refine aw_nil (same_in (.int _ _) ⟨_, rfl, fun _ => ?_, (fun z => by cases z)⟩)
        exact ew_callP rfl trivial (aw_cons (ew_var rfl (aw_cons (ew_var rfl (aw_nil ⟨f, S, rfl, by omega, by rw [hr.l]; omega, hc⟩)))))
end Pf

namespace Pf
open PySem L2 Dl Sh
open Evl (Ex)
open Ry
/-! the plain law of the fractions -/
theorem sft_zero {i : Nat} {k : Nat} : sft i (fun _ => 0) k = 0 := by
  unfold sft
  split <;> rfl
theorem sft_one {g : Nat → Int} {k : Nat} : sft 1 g (k + 1) = g k := by
  unfold sft
  rw [if_pos (by omega)]
  rfl
theorem sft_none {g : Nat → Int} : sft 1 g 0 = 0 := rfl
theorem conv_snd {y : Int} {b : List Int} : ∀ {a : List Int} {k : Nat}, conv a (y :: b) k = y * a.getD k 0 + sft 1 (conv a b) k
  | [], k => by
    show (0 : Int) = y * 0 + sft 1 (fun _ => 0) k
    rw [sft_zero, Int.mul_zero]
    rfl
  | x :: a, k => by
    rw [conv_cons]
    cases k with
    | zero =>
      rw [sft_none, sft_none]
      show x * y + 0 = y * x + 0
      rw [Int.mul_comm]
    | succ k =>
      rw [sft_one, sft_one, conv_snd (a := a), conv_cons]
      show x * b.getD k 0 + (y * a.getD k 0 + _) = y * a.getD k 0 + (x * b.getD k 0 + _)
      omega
theorem conv_none : ∀ {a : List Int} {k : Nat}, conv a [] k = 0
  | [], _ => rfl
  | x :: a, k => by
    rw [conv_cons]
    show x * 0 + _ = _
    cases k with
    | zero => rw [sft_none]; simp
    | succ k => rw [sft_one, conv_none (a := a)]; simp
theorem conv_comm {b : List Int} : ∀ {a : List Int} {k : Nat}, conv a b k = conv b a k
  | [], k => conv_none.symm
  | x :: a, k => by
    rw [conv_cons, conv_snd]
    congr 1
    cases k with
    | zero => rw [sft_none, sft_none]
    | succ k => rw [sft_one, sft_one, conv_comm (a := a)]
theorem conv_congr {b b' : List Int} : ∀ {a : List Int} {k : Nat}, (∀ i, i ≤ k → b.getD i 0 = b'.getD i 0) → conv a b k = conv a b' k
  | [], _, _ => rfl
  | x :: a, k, h => by
    rw [conv_cons, conv_cons, h k (Nat.le_refl _)]
    congr 1
    cases k with
    | zero => rw [sft_none, sft_none]
    | succ k => rw [sft_one, sft_one, conv_congr (a := a) fun i hi => h i (by omega)]
theorem conv_cv {b : List Int} : ∀ {a : List Int} {k : Nat}, conv a b k = ((List.range (k + 1)).map fun i => a.getD i 0 * b.getD (k - i) 0).sum
  | [], k => by
    have : ∀ n : Nat, ((List.range n).map fun i => ([] : List Int).getD i 0 * b.getD (k - i) 0).sum = 0 := fun n => by
      induction n with
      | zero => rfl
      | succ n ih =>
        rw [List.range_succ, List.map_append, List.sum_append, ih]
        show (0 : Int) + (0 * _ + 0) = 0
        simp
    rw [this]
    rfl
  | x :: a, k => by
    rw [List.range_succ_eq_map, List.map_cons, List.sum_cons, List.map_map, conv_cons]
    show x * b.getD k 0 + _ = x * b.getD (k - 0) 0 + _
    rw [Nat.sub_zero]
    congr 1
    cases k with
    | zero =>
      rw [sft_none]
      rfl
    | succ k =>
      rw [sft_one, conv_cv (a := a) (k := k)]
      congr 1
      apply List.map_congr_left
      intro i _
      show a.getD i 0 * b.getD (k - i) 0 = a.getD i 0 * b.getD (k + 1 - (i + 1)) 0
      rw [Nat.add_sub_add_right]
theorem sum_flip {g : Nat → Int} : ∀ n : Nat, ((List.range n).map fun i => g (n - 1 - i)).sum = ((List.range n).map g).sum
  | 0 => rfl
  | n + 1 => by
    rw [List.range_succ_eq_map, List.map_cons, List.sum_cons, List.map_map]
    have e : ((List.range n).map ((fun i => g (n + 1 - 1 - i)) ∘ Nat.succ)).sum = ((List.range n).map fun i => g (n - 1 - i)).sum := by
      congr 1
      apply List.map_congr_left
      intro i _
      show g (n + 1 - 1 - (i + 1)) = g (n - 1 - i)
      congr 1
      omega
    rw [e, sum_flip n, ← List.range_succ_eq_map, List.range_succ, List.map_append, List.sum_append]
    show g (n + 1 - 1 - 0) + _ = _ + (g n + 0)
    rw [Nat.add_sub_cancel, Nat.sub_zero]
    omega
theorem sum_mul {c : Int} {g : Nat → Int} : ∀ n : Nat, ((List.range n).map fun i => c * g i).sum = c * ((List.range n).map g).sum
  | 0 => (Int.mul_zero c).symm
  | n + 1 => by
    rw [List.range_succ, List.map_append, List.map_append, List.sum_append, List.sum_append, sum_mul n]
    show _ + (c * g n + 0) = c * (_ + (g n + 0))
    grind
/-- the full recurrence -/
theorem bot_rec {f : List Int} {w : Int → Int} (h : Rw.Rec f w) (m : Int) : Rw.ev (botF f) (fun k => w (-k)) (-m) = 0 := by
  show 1 * w (- -m) + Rw.ev (f.reverse.map fun x => -x) (fun k => w (-k)) (-m + 1) = 0
  rw [Rw.ev_neg, ev_rev, show 1 - (-m + 1) - (f.length : Int) = m - (f.length : Int) by omega, ← h, Int.neg_neg, show m - (f.length : Int) + (f.length : Int) = m by omega]
  omega
/-- the recurrence as a sum -/
theorem bot_sum {f : List Int} {w : Int → Int} (h : Rw.Rec f w) (m : Int) : ((List.range (f.length + 1)).map fun (i : Nat) => (botF f).getD i 0 * w (m - (i : Int))).sum = 0 := by
  refine Eq.trans ?_ (bot_rec h m)
  rw [← ev_sum (f := botF f) (w := fun k => w (-k)) (k := -m), botF_len]
  congr 1
  apply List.map_congr_left
  intro i _
  show _ = (botF f).getD i 0 * w (-(-m + (i : Int)))
  rw [show -(-m + (i : Int)) = m - (i : Int) by omega]
theorem sum_zero {g : Nat → Int} : ∀ {n : Nat}, (∀ i, i < n → g i = 0) → ((List.range n).map g).sum = 0
  | 0, _ => rfl
  | n + 1, h => by
    rw [List.range_succ, List.map_append, List.sum_append, sum_zero fun i hi => h i (by omega)]
    show (0 : Int) + (g n + 0) = 0
    rw [h n (Nat.lt_succ_self _)]
    rfl
/-- behind the first terms the product is nought -/
theorem conv_bot {f s : List Int} {w : Int → Int} (h : Rw.Rec f w) {k : Nat} (hk : f.length ≤ k) (hs : ∀ i, i ≤ k → s.getD i 0 = w (i : Int)) : conv (botF f) s k = 0 := by
  rw [conv_cv, show k + 1 = (f.length + 1) + (k - f.length) by omega, List.range_add, List.map_append, List.sum_append, List.map_map]
  have e1 : ((List.range (f.length + 1)).map fun i => (botF f).getD i 0 * s.getD (k - i) 0).sum = 0 := by
    refine Eq.trans ?_ (bot_sum h (k : Int))
    congr 1
    apply List.map_congr_left
    intro i hi
    have hi := List.mem_range.mp hi
    rw [hs _ (by omega), show ((k - i : Nat) : Int) = (k : Int) - (i : Int) by omega]
  rw [e1, sum_zero fun i hi => ?_]
  · rfl
  · show (botF f).getD (f.length + 1 + i) 0 * _ = 0
    rw [getD_out (by rw [botF_len]; omega), Int.zero_mul]
/-! trimmed rows -/
theorem trim_split {v : List Int} : v = trimR v ++ List.replicate (v.length - (trimR v).length) 0 := by
  induction h : v.length generalizing v with
  | zero =>
    have : v = [] := List.eq_nil_of_length_eq_zero h
    subst this
    rfl
  | succ n ih =>
    rcases List.eq_nil_or_concat v with rfl | ⟨u, x, rfl⟩
    · cases h
    · rw [List.concat_eq_append] at h ⊢
      rw [List.length_append] at h
      have hu : u.length = n := by
        have h : u.length + 1 = n + 1 := h
        omega
      by_cases hx : x = 0
      · subst hx
        have := ih hu
        have hle := trim_len (v := u)
        rw [trim_zero]
        have e : n + 1 - (trimR u).length = (n - (trimR u).length) + 1 := by omega
        rw [e, List.replicate_succ', ← List.append_assoc, ← this]
      · rw [trim_snoc hx, List.length_append]
        show _ = u ++ [x] ++ List.replicate (n + 1 - (u.length + 1)) 0
        rw [hu, Nat.sub_self, List.replicate_zero, List.append_nil]
theorem trim_get {v : List Int} (k : Nat) : (trimR v).getD k 0 = v.getD k 0 := by
  conv => rhs; rw [trim_split (v := v)]
  by_cases h : k < (trimR v).length
  · rw [List.getD_eq_getElem?_getD, List.getD_eq_getElem?_getD, List.getElem?_append_left h]
  · rw [getD_out (by omega), List.getD_eq_getElem?_getD, List.getElem?_append_right (by omega)]
    by_cases h2 : k - (trimR v).length < v.length - (trimR v).length
    · rw [List.getElem?_replicate, if_pos h2]
      rfl
    · rw [List.getElem?_replicate, if_neg h2]
      rfl
theorem trim_pad {u : List Int} : ∀ m : Nat, trimR (u ++ List.replicate m 0) = trimR u
  | 0 => by rw [List.replicate_zero, List.append_nil]
  | m + 1 => by rw [List.replicate_succ', ← List.append_assoc, trim_zero, trim_pad m]
theorem pad_ext {u v : List Int} (h : ∀ k, u.getD k 0 = v.getD k 0) : u ++ List.replicate (v.length - u.length) 0 = v ++ List.replicate (u.length - v.length) 0 := by
  apply List.ext_getElem?
  intro k
  have key : ∀ (a b : List Int), (a ++ List.replicate (b.length - a.length) 0)[k]? = if k < max a.length b.length then some (a.getD k 0) else none := fun a b => by
    by_cases h1 : k < a.length
    · rw [List.getElem?_append_left h1, if_pos (by omega), List.getD_eq_getElem?_getD, List.getElem?_eq_getElem h1]
      rfl
    · rw [List.getElem?_append_right (by omega), List.getElem?_replicate, getD_out (by omega)]
      by_cases h2 : k < b.length
      · rw [if_pos (by omega), if_pos (by omega)]
      · rw [if_neg (by omega), if_neg (by omega)]
  rw [key u v, key v u, h k, Nat.max_comm]
theorem trim_ext {u v : List Int} (h : ∀ k, u.getD k 0 = v.getD k 0) : trimR u = trimR v := by
  rw [← trim_pad (u := u) (v.length - u.length), pad_ext h, trim_pad]
theorem row_getD {n : Nat} {R : Nat → Int} (k : Nat) : (rowI n R).getD k 0 = if k < n then R k else 0 := by
  by_cases h : k < n
  · rw [row_get h, if_pos h]
  · rw [getD_out (by rw [row_len]; omega), if_neg h]
/-- the turned row's bottom -/
theorem bot_turn {f : List Int} (hf : FOk f) : botF (turnF f) = (botF f).reverse.map fun x => -f.headD 0 * x := by
  have hne := hf.ne
  have hu := hf.unit
  cases f with
  | nil => exact absurd rfl hne
  | cons a g =>
    have hu : a * a = 1 := hu
    have e1 : (-a) * (-a) = 1 := by
      rw [Int.neg_mul_neg]
      exact hu
    show 1 :: (a :: g.reverse.map fun x => -a * x).reverse.map (fun x => -x) = (1 :: (a :: g).reverse.map fun x => -x).reverse.map fun x => -a * x
    rw [List.reverse_cons, List.reverse_cons, List.reverse_cons, List.map_append, List.map_append, List.map_append, List.reverse_append]
    show 1 :: (((g.reverse.map fun x => -a * x).reverse.map fun x => -x) ++ [-a]) = (([-a] ++ (g.reverse.map fun x => -x).reverse).map fun x => -a * x) ++ [-a * 1]
    rw [List.map_append, ← List.map_reverse, ← List.map_reverse, List.reverse_reverse, List.map_map, List.map_map, Int.mul_one]
    show 1 :: ((g.map _) ++ [-a]) = (-a * -a) :: ((g.map _) ++ [-a])
    rw [e1]
    congr 2
    apply List.map_congr_left
    intro x _
    show -(-a * x) = -a * -x
    grind
theorem und_get {f S : List Int} {i : Nat} (h1 : 1 ≤ i) (h2 : i ≤ f.length) : (undS f S).getD i 0 = Rw.sq f S (-(i : Int)) := by
  obtain ⟨j, rfl⟩ : ∃ j, i = j + 1 := ⟨i - 1, by omega⟩
  unfold undS
  show ((List.range f.length).map _).getD j 0 = _
  rw [List.getD_eq_getElem?_getD, List.getElem?_map, List.getElem?_range (by omega)]
  show Rw.sq f S (-((j : Int) + 1)) = Rw.sq f S (-((j + 1 : Nat) : Int))
  rw [show -((j + 1 : Nat) : Int) = -((j : Int) + 1) by omega]
/-- the top behind is the top, read the other way -/
theorem und_top {f S : List Int} (hr : ROk f S) {k : Nat} (h1 : 1 ≤ k) (h2 : k ≤ f.length) : conv (botF (turnF f)) (undS f S) k = f.headD 0 * conv (botF f) S (f.length - k) := by
  have hrec := Rw.sq_rec hr.fok.unit hr.l hr.fok.ne
  have hbl : (botF f).length = f.length + 1 := botF_len
  -- A: the first part of the full recurrence at d - k
  have hA := bot_sum hrec ((f.length - k : Nat) : Int)
  rw [show f.length + 1 = (f.length - k + 1) + k by omega, List.range_add, List.map_append, List.sum_append, List.map_map] at hA
  have e1 : ((List.range (f.length - k + 1)).map fun (i : Nat) => (botF f).getD i 0 * Rw.sq f S (((f.length - k : Nat) : Int) - (i : Int))).sum = conv (botF f) S (f.length - k) := by
    rw [conv_cv]
    congr 1
    apply List.map_congr_left
    intro i hi
    have hi := List.mem_range.mp hi
    rw [Rw.sq_first hr.fok.unit hr.l hr.fok.ne (i := f.length - k - i) (by omega), show ((f.length - k - i : Nat) : Int) = ((f.length - k : Nat) : Int) - (i : Int) by omega]
  rw [e1] at hA
  have e2 : conv (botF (turnF f)) (undS f S) k = -f.headD 0 * ((List.range k).map ((fun (i : Nat) => (botF f).getD i 0 * Rw.sq f S (((f.length - k : Nat) : Int) - (i : Int))) ∘ fun i => f.length - k + 1 + i)).sum := by
    rw [conv_cv, List.range_succ, List.map_append, List.sum_append]
    have e3 : ([k].map fun i => (botF (turnF f)).getD i 0 * (undS f S).getD (k - i) 0).sum = 0 := by
      show (botF (turnF f)).getD k 0 * (undS f S).getD (k - k) 0 + 0 = 0
      rw [Nat.sub_self]
      show (botF (turnF f)).getD k 0 * 0 + 0 = 0
      simp
    rw [e3, Int.add_zero, ← sum_mul, ← sum_flip k]
    congr 1
    apply List.map_congr_left
    intro i hi
    have hi := List.mem_range.mp hi
    have hb : (botF (turnF f)).getD (k - 1 - i) 0 = -f.headD 0 * (botF f).getD (f.length - k + 1 + i) 0 := by
      rw [bot_turn hr.fok, List.getD_eq_getElem?_getD, List.getElem?_map, List.getElem?_reverse (by omega), List.getD_eq_getElem?_getD, hbl, show f.length + 1 - 1 - (k - 1 - i) = f.length - k + 1 + i by omega, List.getElem?_eq_getElem (by omega)]
      rfl
    rw [hb, und_get (by omega) (by omega)]
    show -f.headD 0 * (botF f).getD (f.length - k + 1 + i) 0 * Rw.sq f S (-((k - (k - 1 - i) : Nat) : Int)) = -f.headD 0 * ((botF f).getD (f.length - k + 1 + i) 0 * Rw.sq f S (((f.length - k : Nat) : Int) - ((f.length - k + 1 + i : Nat) : Int)))
    rw [show -((k - (k - 1 - i) : Nat) : Int) = ((f.length - k : Nat) : Int) - ((f.length - k + 1 + i : Nat) : Int) by omega, Int.mul_assoc]
  rw [e2]
  have key : ∀ u v : Int, v + u = 0 → -f.headD 0 * u = f.headD 0 * v := fun u v h => by
    have : u = -v := by omega
    rw [this]
    grind
  exact key _ _ hA
/-- the top of what lies behind, as back_fraction reckons it -/
theorem und_eq {f S : List Int} (hr : ROk f S) : trimR (subR (fracT (turnF f) (bterms f S f.length)) (trimR (mulR (trimR [S.headD 0]) (botF (turnF f))))) = underL f S := by
  have ht := turn_ok hr.fok
  have htl := turn_len hr.fok
  have hp := List.length_pos_iff.mpr hr.fok.ne
  have hbl : (botF (turnF f)).length = f.length + 1 := by rw [botF_len, htl]
  have hrec := Rw.sq_rec hr.fok.unit hr.l hr.fok.ne
  have hrt := turn_rec hr.fok hrec
  have hS0 : S.headD 0 = Rw.sq f S 0 := by
    have h0 := Rw.sq_first hr.fok.unit hr.l hr.fok.ne (i := 0) hp
    rw [Int.natCast_zero] at h0
    rw [← h0]
    cases S <;> rfl
  unfold underL
  refine trim_ext fun k => ?_
  have em : ∀ k, (trimR (mulR (trimR [S.headD 0]) (botF (turnF f)))).getD k 0 = S.headD 0 * (botF (turnF f)).getD k 0 := fun k => by
    rw [trim_get]
    by_cases h0 : S.headD 0 = 0
    · rw [h0]
      have : trimR [(0 : Int)] = [] := rfl
      rw [this]
      show (0 : Int) = 0 * _
      simp
    · have e1 : trimR [S.headD 0] = [S.headD 0] := trim_snoc (u := []) h0
      rw [e1]
      unfold mulR
      rw [if_neg (by intro z; rcases z with z | z <;> cases z), row_getD]
      have e2 : ∀ k, conv [S.headD 0] (botF (turnF f)) k = S.headD 0 * (botF (turnF f)).getD k 0 := fun k => by
        rw [conv_cons]
        have : sft 1 (conv [] (botF (turnF f))) k = 0 := sft_zero
        rw [this, Int.add_zero]
      split
      · exact e2 k
      · rename_i hk
        rw [getD_out (v := botF (turnF f)) (by show _ ≤ k; simp at hk; omega)]
        simp
  have eu : conv (botF (turnF f)) (undS f S) k = conv (botF (turnF f)) (S.headD 0 :: (undS f S).tail) k - S.headD 0 * (botF (turnF f)).getD k 0 := by
    have e : undS f S = 0 :: (undS f S).tail := rfl
    rw [e, conv_snd, conv_snd]
    show 0 * _ + sft 1 (conv (botF (turnF f)) (undS f S).tail) k = _
    rw [Int.zero_mul]
    show 0 + sft 1 (conv (botF (turnF f)) (undS f S).tail) k = S.headD 0 * _ + sft 1 (conv (botF (turnF f)) (undS f S).tail) k - _
    omega
  have eb : ∀ i, i ≤ f.length → (S.headD 0 :: (undS f S).tail).getD i 0 = Rw.sq f S (-(i : Int)) := fun i hi => by
    cases i with
    | zero => exact hS0
    | succ i =>
      have := und_get (f := f) (S := S) (i := i + 1) (by omega) hi
      exact this
  have hul : (fracT (turnF f) (bterms f S f.length)).getD k 0 = if k < f.length then conv (botF (turnF f)) (bterms f S f.length) k else 0 := by
    unfold fracT
    rw [trim_get, row_getD, htl]
  unfold subR
  rw [row_getD, row_getD, em, hul]
  by_cases hk : k < f.length + 1
  · rw [if_pos hk, eu]
    have e6 : (if k < f.length then conv (botF (turnF f)) (bterms f S f.length) k else 0) = conv (botF (turnF f)) (S.headD 0 :: (undS f S).tail) k := by
      by_cases hk2 : k < f.length
      · rw [if_pos hk2]
        refine conv_congr fun i hi => ?_
        rw [eb i (by omega)]
        unfold bterms
        rw [List.getD_eq_getElem?_getD, List.getElem?_map, List.getElem?_range (by omega)]
        rfl
      · rw [if_neg hk2]
        have := conv_bot (s := S.headD 0 :: (undS f S).tail) hrt (k := k) (by rw [htl]; omega) (fun i hi => eb i (by omega))
        exact this.symm
    rw [← e6]
    split
    · omega
    · rename_i hk3
      have h4 : (fracT (turnF f) (bterms f S f.length)).getD k 0 = 0 := getD_out (by omega)
      have h5 := em k
      rw [getD_out (v := trimR (mulR (trimR [S.headD 0]) (botF (turnF f)))) (by omega)] at h5
      rw [hul] at h4
      rw [h4, ← h5]
      rfl
  · rw [if_neg hk]
    split
    · rw [if_neg (by omega), getD_out (v := botF (turnF f)) (by omega)]
      simp
    · rfl
end Pf

namespace Pf
open PySem L2 Dl Sh
open Evl (Ex)
open Ry
theorem red_cross {A B C D : Int} (hB : B ≠ 0) (hD : D ≠ 0) (h : A * D = C * B) : red A B = red C D := by
  refine red_is (red_sh hD) hB ?_
  have hv := red_val (a := C) hD
  generalize (red C D).1 = p1 at hv ⊢
  generalize (red C D).2 = p2 at hv ⊢
  have e : (A * p2) * D = (p1 * B) * D := by
    have e1 : (A * p2) * D = A * D * p2 := by grind
    have e2 : (p1 * B) * D = p1 * D * B := by grind
    rw [e1, e2, h, hv]
    grind
  exact Int.eq_of_mul_eq_mul_right hD e
theorem hT_app {a b : Int} {v : List Int} : ∀ {u : List Int}, hT (u ++ v) a b = hT u a b * b ^ v.length + a ^ u.length * hT v a b
  | [] => by
    show hT v a b = 0 * _ + a ^ 0 * hT v a b
    rw [Int.pow_zero, Int.zero_mul, Int.one_mul, Int.zero_add]
  | x :: u => by
    show hT (u ++ v) a b * a + x * b ^ (u ++ v).length = (hT u a b * a + x * b ^ u.length) * b ^ v.length + a ^ (u.length + 1) * hT v a b
    rw [hT_app (u := u), List.length_append, Int.pow_add, Int.pow_succ]
    grind
theorem hT_rev {a b : Int} : ∀ {v : List Int}, hT v.reverse a b = hT v b a
  | [] => rfl
  | x :: v => by
    rw [List.reverse_cons, hT_app, hT_rev (v := v), List.length_reverse]
    show hT v b a * b ^ 1 + a ^ v.length * (0 * a + x * b ^ 0) = hT v b a * b + x * a ^ v.length
    rw [Int.pow_zero, Int.pow_succ, Int.pow_zero]
    grind
theorem hT_mul {a b c : Int} : ∀ {v : List Int}, hT (v.map fun x => c * x) a b = c * hT v a b
  | [] => (Int.mul_zero c).symm
  | x :: v => by
    show hT (v.map fun x => c * x) a b * a + c * x * b ^ (v.map fun x => c * x).length = c * (hT v a b * a + x * b ^ v.length)
    rw [hT_mul (v := v), List.length_map]
    grind
theorem neg_pow {b : Int} : ∀ n : Nat, (-b) ^ n = (-1) ^ n * b ^ n
  | 0 => by simp
  | n + 1 => by
    rw [Int.pow_succ, Int.pow_succ, Int.pow_succ, neg_pow n]
    grind
theorem hT_neg {a b : Int} : ∀ {v : List Int}, hT v (-a) (-b) * (-1) = (-1) ^ v.length * hT v a b
  | [] => by
    show (0 : Int) * (-1) = (-1) ^ 0 * 0
    rw [Int.mul_zero, Int.zero_mul]
  | x :: v => by
    show (hT v (-a) (-b) * (-a) + x * (-b) ^ v.length) * (-1) = (-1) ^ (v.length + 1) * (hT v a b * a + x * b ^ v.length)
    have ih := hT_neg (a := a) (b := b) (v := v)
    rw [neg_pow, Int.pow_succ]
    have e : (hT v (-a) (-b) * (-a) + x * ((-1) ^ v.length * b ^ v.length)) * (-1) = (hT v (-a) (-b) * (-1)) * (-a) - x * ((-1) ^ v.length * b ^ v.length) := by grind
    rw [e, ih]
    grind
theorem hT_zeros {a b : Int} : ∀ {m : Nat}, hT (List.replicate m 0) a b = 0
  | 0 => rfl
  | m + 1 => by
    show hT (List.replicate m 0) a b * a + 0 * _ = 0
    rw [hT_zeros (m := m)]
    simp
/-- zeros at the end change the top by powers of the bottom -/
theorem hT_trim {v : List Int} {a b : Int} : hT v a b = hT (trimR v) a b * b ^ (v.length - (trimR v).length) := by
  conv => lhs; rw [trim_split (v := v)]
  rw [hT_app, hT_zeros, Int.mul_zero, Int.add_zero, List.length_replicate]
theorem hT_trim2 {v : List Int} {a b : Int} {n : Nat} (hn : v.length = n + 1) : hT (trimR v) a b * b ^ n = hT v a b * b ^ ((trimR v).length - 1) := by
  rw [hT_trim (v := v)]
  by_cases h : (trimR v).length = 0
  · have : trimR v = [] := List.eq_nil_of_length_eq_zero h
    rw [this]
    show (0 : Int) * _ = 0 * _ * _
    simp
  · have hle := trim_len (v := v)
    rw [Int.mul_assoc, ← Int.pow_add]
    congr 2
    omega
/-- what a polynomial's value is, crosswise -/
theorem val_cross {v : List Int} {p : Int × Int} (hp : p.2 ≠ 0) : (valS v p).1 * p.2 ^ (v.length - 1) = hT v p.1 p.2 * (valS v p).2 ∧ IsSh (valS v p) := by
  unfold valS
  by_cases h : v = []
  · subst h
    rw [if_pos rfl]
    exact ⟨by show (0 : Int) * _ = 0 * _; simp, ⟨by decide, by decide⟩⟩
  · rw [if_neg h]
    have hz : p.2 ^ (v.length - 1) ≠ 0 := Int.pow_ne_zero hp
    exact ⟨red_val hz, red_sh hz⟩
theorem red_swap {p q : Int} (hp : p ≠ 0) (h : gi p q = 1) : red q p = (q, p) ∨ red q p = (-q, -p) := by
  have h' : gi q p = 1 := by rw [gi_comm]; exact h
  unfold red
  rw [h', Int.ediv_one, Int.ediv_one, Int.ediv_one, Int.ediv_one]
  split
  · exact .inr rfl
  · exact .inl rfl
/-- the padded top -/
def padT (f S : List Int) : List Int := rowI f.length (conv (botF f) S) ++ [0]
theorem und_rev {f S : List Int} (hr : ROk f S) : rowI (f.length + 1) (conv (botF (turnF f)) (undS f S)) = (padT f S).reverse.map fun x => f.headD 0 * x := by
  apply List.ext_getElem?
  intro k
  unfold padT
  rw [List.reverse_append]
  have hl2 : (([0].reverse ++ (rowI f.length (conv (botF f) S)).reverse).map fun x => f.headD 0 * x).length = f.length + 1 := by
    rw [List.length_map, List.length_append, List.length_reverse, List.length_reverse, row_len]
    show 1 + f.length = _
    omega
  by_cases hk : k < f.length + 1
  · have e1 : (rowI (f.length + 1) (conv (botF (turnF f)) (undS f S)))[k]? = some (conv (botF (turnF f)) (undS f S) k) := by
      unfold rowI
      rw [List.getElem?_map, List.getElem?_range hk]
      rfl
    rw [e1]
    cases k with
    | zero =>
      show some _ = some (f.headD 0 * 0)
      rw [Int.mul_zero]
      rw [conv_cv]
      show some (_ * (0 : Int) + 0) = some 0
      simp
    | succ k =>
      rw [und_top hr (by omega) (by omega)]
      show _ = (((rowI f.length (conv (botF f) S)).reverse).map fun x => f.headD 0 * x)[k]?
      rw [List.getElem?_map, List.getElem?_reverse (by rw [row_len]; omega), row_len]
      unfold rowI
      rw [List.getElem?_map, List.getElem?_range (by omega)]
      show some (f.headD 0 * conv (botF f) S (f.length - (k + 1))) = some (f.headD 0 * conv (botF f) S (f.length - 1 - k))
      rw [show f.length - (k + 1) = f.length - 1 - k by omega]
  · rw [List.getElem?_eq_none (by rw [row_len]; omega), List.getElem?_eq_none (by rw [hl2]; omega)]
theorem pad_trim {f S : List Int} : trimR (padT f S) = fracT f S := by
  unfold padT fracT
  exact trim_zero
theorem pad_len {f S : List Int} : (padT f S).length = f.length + 1 := by
  unfold padT
  rw [List.length_append, row_len]
  rfl
/-- the two fractions at x and at 1 / x, crosswise -/
theorem frac_cross {f S : List Int} (hr : ROk f S) {p q a b : Int} (hq : q ≠ 0) (hp : p ≠ 0) (hab : (a = q ∧ b = p) ∨ (a = -q ∧ b = -p)) {v3 v4 : Int × Int}
    (h3 : v3.1 * q ^ ((underL f S).length - 1) = hT (underL f S) p q * v3.2) (h4 : v4.1 * q ^ ((botF (turnF f)).length - 1) = hT (botF (turnF f)) p q * v4.2) (z3 : v3.2 ≠ 0) (z4 : v4.2 ≠ 0) (hN : hT (botF f) a b ≠ 0) :
    v4.1 ≠ 0 ∧ red (v3.1 * v4.2) (v3.2 * v4.1) = red (0 - hT (fracT f S) a b * b ^ ((botF f).length - 1)) (b ^ ((fracT f S).length - 1) * hT (botF f) a b) := by
  have hu0 := hr.fok.unit
  have hf0 : f.headD 0 ≠ 0 := fun e => by
    rw [e] at hu0
    cases hu0
  have hb0 : b ≠ 0 := by rcases hab with ⟨_, h⟩ | ⟨_, h⟩ <;> omega
  -- the polynomials, all of d + 1 members, at (q, p)
  have hbl : (botF f).length = f.length + 1 := botF_len
  have hbt : (botF (turnF f)).length = f.length + 1 := by rw [botF_len, turn_len hr.fok]
  have eV : hT (botF (turnF f)) p q = -f.headD 0 * hT (botF f) q p := by
    rw [bot_turn hr.fok, hT_mul, hT_rev]
  have eU : hT (underL f S) p q * q ^ f.length = f.headD 0 * hT (padT f S) q p * q ^ ((underL f S).length - 1) := by
    have := hT_trim2 (v := rowI (f.length + 1) (conv (botF (turnF f)) (undS f S))) (a := p) (b := q) (n := f.length) row_len
    rw [und_rev hr, hT_mul, hT_rev] at this
    unfold underL
    rw [und_rev hr]
    exact this
  have eT : hT (fracT f S) a b * b ^ f.length = hT (padT f S) a b * b ^ ((fracT f S).length - 1) := by
    have := hT_trim2 (v := padT f S) (a := a) (b := b) (n := f.length) pad_len
    rw [pad_trim] at this
    exact this
  obtain ⟨s, hs, eQ, eP⟩ : ∃ s : Int, s ≠ 0 ∧ hT (botF f) a b = s * hT (botF f) q p ∧ hT (padT f S) a b = s * hT (padT f S) q p := by
    rcases hab with ⟨h1, h2⟩ | ⟨h1, h2⟩
    · exact ⟨1, by decide, by rw [h1, h2, Int.one_mul], by rw [h1, h2, Int.one_mul]⟩
    · refine ⟨-(-1) ^ (f.length + 1), ?_, ?_, ?_⟩
      · have hz : ((-1 : Int)) ^ (f.length + 1) ≠ 0 := Int.pow_ne_zero (by decide)
        exact fun e => hz (by omega)
      · have := hT_neg (a := q) (b := p) (v := botF f)
        rw [hbl] at this
        rw [h1, h2]
        have e : ∀ x y z : Int, x * (-1) = y * z → x = -y * z := fun x y z h => by
          have : x = -(y * z) := by omega
          rw [this]
          grind
        exact e _ _ _ this
      · have := hT_neg (a := q) (b := p) (v := padT f S)
        rw [pad_len] at this
        rw [h1, h2]
        have e : ∀ x y z : Int, x * (-1) = y * z → x = -y * z := fun x y z h => by
          have : x = -(y * z) := by omega
          rw [this]
          grind
        exact e _ _ _ this
  rw [hbt, Nat.add_sub_cancel] at h4
  rw [hbl, Nat.add_sub_cancel]
  rw [eV] at h4
  rw [eQ] at hN ⊢
  rw [eP] at eT
  have hQ : hT (botF f) q p ≠ 0 := fun e => hN (by rw [e, Int.mul_zero])
  have hqd : q ^ f.length ≠ 0 := Int.pow_ne_zero hq
  have hqu : q ^ ((underL f S).length - 1) ≠ 0 := Int.pow_ne_zero hq
  have hbT : b ^ ((fracT f S).length - 1) ≠ 0 := Int.pow_ne_zero hb0
  generalize hT (botF f) q p = HQ at *
  generalize hT (padT f S) q p = HP at *
  generalize hT (underL f S) p q = N3 at *
  generalize hT (fracT f S) a b = N1 at *
  generalize q ^ f.length = qd at *
  generalize q ^ ((underL f S).length - 1) = qu at *
  generalize b ^ f.length = bd at *
  generalize b ^ ((fracT f S).length - 1) = bT at *
  generalize f.headD 0 = c at *
  have h40 : v4.1 ≠ 0 := fun e => by
    rw [e, Int.zero_mul] at h4
    rcases Int.mul_eq_zero.mp h4.symm with h | h
    · rcases Int.mul_eq_zero.mp h with h | h
      · omega
      · exact hQ h
    · exact z4 h
  refine ⟨h40, red_cross (Int.mul_ne_zero z3 h40) (Int.mul_ne_zero hbT hN) ?_⟩
  -- v3.1 v4.2 bT s HQ = - N1 bd v3.2 v4.1, after multiplying by qu qd
  have hz : qu * qd ≠ 0 := Int.mul_ne_zero hqu hqd
  apply Int.eq_of_mul_eq_mul_right hz
  generalize v3.1 = x3 at *
  generalize v3.2 = y3 at *
  generalize v4.1 = x4 at *
  generalize v4.2 = y4 at *
  have a1 : x3 * y4 * (bT * (s * HQ)) * (qu * qd) = (x3 * qu) * (y4 * bT * s * HQ * qd) := by grind
  have a2 : (0 - N1 * bd) * (y3 * x4) * (qu * qd) = -(N1 * bd) * y3 * qu * (x4 * qd) := by grind
  rw [a1, a2, h3, h4, eT]
  have a3 : N3 * y3 * (y4 * bT * s * HQ * qd) = (N3 * qd) * (y3 * y4 * bT * s * HQ) := by grind
  rw [a3, eU]
  grind
/-- the first one at 1 / x, by way of shares -/
theorem less_cross {N1 M1 N2 M2 : Int} {w1 w2 : Int × Int} (h1 : w1.1 * M1 = N1 * w1.2) (h2 : w2.1 * M2 = N2 * w2.2) (z1 : w1.2 ≠ 0) (z2 : w2.2 ≠ 0) (m1 : M1 ≠ 0) (m2 : M2 ≠ 0) (n2 : N2 ≠ 0) :
    w2.1 ≠ 0 ∧ red (0 * (red (w1.1 * w2.2) (w1.2 * w2.1)).2 - (red (w1.1 * w2.2) (w1.2 * w2.1)).1 * 1) (1 * (red (w1.1 * w2.2) (w1.2 * w2.1)).2) = red (0 - N1 * M2) (M1 * N2) := by
  have h20 : w2.1 ≠ 0 := fun e => by
    rw [e, Int.zero_mul] at h2
    rcases Int.mul_eq_zero.mp h2.symm with h | h
    · exact n2 h
    · exact z2 h
  have hd : w1.2 * w2.1 ≠ 0 := Int.mul_ne_zero z1 h20
  have hv := red_val (a := w1.1 * w2.2) hd
  have hs := (red_sh (a := w1.1 * w2.2) hd).pos
  refine ⟨h20, red_cross (by omega) (Int.mul_ne_zero m1 n2) ?_⟩
  generalize (red (w1.1 * w2.2) (w1.2 * w2.1)).1 = r1 at *
  generalize (red (w1.1 * w2.2) (w1.2 * w2.1)).2 = r2 at *
  have hz : w1.2 * w2.1 * w2.2 ≠ 0 := Int.mul_ne_zero hd z2
  apply Int.eq_of_mul_eq_mul_right hz
  generalize w1.1 = x1 at *
  generalize w1.2 = y1 at *
  generalize w2.1 = x2 at *
  generalize w2.2 = y2 at *
  have a1 : (0 * r2 - r1 * 1) * (M1 * N2) * (y1 * x2 * y2) = -(r1 * (y1 * x2)) * M1 * (N2 * y2) := by grind
  rw [a1, hv, ← h2]
  have a2 : -(x1 * y2 * r2) * M1 * (x2 * M2) = -(x1 * M1) * y2 * r2 * x2 * M2 := by grind
  rw [a2, h1]
  grind
end Pf

namespace Pf
open PySem L2 Dl Sh
open Evl (Ex)
open Ry
/-! sizes, and the series -/
theorem conv_bd {n m : Nat} {b : List Int} (hb : Big m b) : ∀ {a : List Int} {k : Nat}, Big n a → (conv a b k).natAbs ≤ a.length * 2 ^ (n + m)
  | [], _, _ => by
    show (0 : Int).natAbs ≤ _
    simp
  | x :: a, k, ha => by
    have h := mul_bd (ha x List.mem_cons_self) (big_getD hb k)
    rw [conv_cons, List.length_cons, Nat.succ_mul]
    cases k with
    | zero =>
      rw [sft_none]
      omega
    | succ k =>
      rw [sft_one]
      have ih := conv_bd hb (a := a) (k := k) fun z hz => ha z (List.mem_cons_of_mem _ hz)
      omega
theorem conv_big {n m : Nat} {a b : List Int} (ha : Big n a) (hb : Big m b) (hl : a.length ≤ 15) (k : Nat) : (conv a b k).natAbs < 2 ^ (n + m + 4) := by
  have := conv_bd hb (k := k) ha
  have h2 : a.length * 2 ^ (n + m) ≤ 15 * 2 ^ (n + m) := Nat.mul_le_mul_right _ hl
  have h3 : 0 < 2 ^ (n + m) := Nat.pos_of_ne_zero (fun e => by simp at e)
  rw [Nat.pow_add _ _ 4]
  omega
theorem row_big {n c : Nat} {R : Nat → Int} (h : ∀ k, (R k).natAbs < 2 ^ c) : Big c (rowI n R) := fun x hx => by
  obtain ⟨k, _, rfl⟩ := List.mem_map.mp hx
  exact h k
theorem trim_big {v : List Int} {n : Nat} (h : Big n v) : Big n (trimR v) := big_sub h fun x hx => trim_mem hx
theorem hT_bdG {a b : Int} {c B : Nat} (ha : a.natAbs < 2 ^ c) (hb : b.natAbs < 2 ^ c) : ∀ {u : List Int}, Big B u → (hT u a b).natAbs < 2 ^ (B + (c + 2) * u.length)
  | [], _ => Nat.pos_of_ne_zero (fun e => by simp at e)
  | x :: u, h => by
    have hpw : ∀ n : Nat, (b ^ n).natAbs < 2 ^ (c * n + 1) := fun n => by
      induction n with
      | zero =>
        rw [Int.pow_zero]
        exact Nat.one_lt_two_pow (by omega)
      | succ n ih =>
        rw [Int.pow_succ]
        exact pow_up (mul_bd ih hb) (by rw [Nat.mul_succ]; omega)
    have h1 := mul_bd (hT_bdG ha hb (u := u) fun y hy => h y (List.mem_cons_of_mem _ hy)) ha
    have e1 : (c + 2) * u.length = c * u.length + 2 * u.length := Nat.add_mul _ _ _
    have h2 := pow_up (mul_bd (h x List.mem_cons_self) (hpw u.length)) (show B + (c * u.length + 1) ≤ B + (c + 2) * u.length + c + 1 by omega)
    show (hT u a b * a + x * b ^ u.length).natAbs < _
    refine pow_up (add_bd (pow_up h1 (show _ ≤ B + (c + 2) * u.length + c + 1 by omega)) h2) ?_
    rw [List.length_cons, Nat.mul_succ]
    omega
theorem pw_bdG {b : Int} {c : Nat} (hb : b.natAbs < 2 ^ c) (n : Nat) : (b ^ n).natAbs < 2 ^ (c * n + 1) := by
  induction n with
  | zero =>
    rw [Int.pow_zero]
    exact Nat.one_lt_two_pow (by omega)
  | succ n ih =>
    rw [Int.pow_succ]
    exact pow_up (mul_bd ih hb) (by rw [Nat.mul_succ]; omega)
/-- the series' first terms times the bottom -/
theorem ser_prod {f S : List Int} (hr : ROk f S) {n k : Nat} (hk : k < n) : (trimR (mulR (trimR (segL f S 0 n)) (botF f))).getD k 0 = (fracT f S).getD k 0 := by
  have hrec := Rw.sq_rec hr.fok.unit hr.l hr.fok.ne
  have hp := List.length_pos_iff.mpr hr.fok.ne
  have hbl : (botF f).length = f.length + 1 := botF_len
  have hs : ∀ i, i ≤ k → (trimR (segL f S 0 n)).getD i 0 = Rw.sq f S (i : Int) := fun i hi => by
    rw [trim_get, seg_get (by omega), Int.zero_add]
  have ec : ∀ s : List Int, (mulR s (botF f)).getD k 0 = conv (botF f) s k := fun s => by
    unfold mulR
    by_cases h : s = []
    · subst h
      rw [if_pos (.inl rfl), conv_none]
      rfl
    · rw [if_neg (by
        intro z
        rcases z with z | z
        · exact h z
        · cases z), row_getD, conv_comm]
      split
      · rfl
      · rename_i h2
        -- behind the product's end
        rw [conv_cv]
        refine (sum_zero fun i hi => ?_).symm
        by_cases h3 : i < (botF f).length
        · rw [getD_out (v := s) (by omega), Int.mul_zero]
        · rw [getD_out (v := botF f) (by omega), Int.zero_mul]
  rw [trim_get, ec]
  unfold fracT
  rw [trim_get, row_getD]
  by_cases h : k < f.length
  · rw [if_pos h]
    refine conv_congr fun i hi => ?_
    rw [hs i hi, ← Rw.sq_first hr.fok.unit hr.l hr.fok.ne (by omega)]
  · rw [if_neg h]
    exact conv_bot hrec (by omega) hs
theorem frac_big {f S : List Int} (h : LRow f S) : Big 44 (fracT f S) := trim_big (row_big fun k => conv_big (botF_big h.r.fok) h.b (by rw [botF_len]; have := h.l5; omega) k)
theorem und_bigS {f S : List Int} (h : LRow f S) : Big 160 (undS f S) := by
  unfold undS
  refine big_cons (Nat.pos_of_ne_zero (fun e => by simp at e)) fun x hx => ?_
  obtain ⟨i, hi, rfl⟩ := List.mem_map.mp hx
  have := List.mem_range.mp hi
  have h5 := h.l5
  exact pow_up (sq_big h.r.fok h.b _) (by omega)
theorem und_big {f S : List Int} (h : LRow f S) : Big 190 (underL f S) := trim_big (row_big fun k => pow_up (conv_big (botF_big (turn_ok h.r.fok)) (und_bigS h) (by rw [botF_len, turn_len h.r.fok]; have := h.l5; omega) k) (by decide))
theorem frac_len {f S : List Int} : (fracT f S).length ≤ f.length := by
  have := trim_len (v := rowI f.length (conv (botF f) S))
  rw [row_len] at this
  exact this
theorem und_len {f S : List Int} : (underL f S).length ≤ f.length + 1 := by
  have := trim_len (v := rowI (f.length + 1) (conv (botF (turnF f)) (undS f S)))
  rw [row_len] at this
  exact this
theorem ser_big {f S : List Int} (h : LRow f S) {n : Nat} (hn : n ≤ 10) : Big 100000 (trimR (segL f S 0 n)) := trim_big (seg_big h.r.fok h.b fun j hj => by omega)
theorem bt_big {f S : List Int} (h : LRow f S) : Big 50 (botF f) := big_mono (botF_big h.r.fok) (by decide)
theorem bB_big {f S : List Int} (h : LRow f S) : Big 160 (bterms f S f.length) := fun x hx => by
  obtain ⟨j, hj, rfl⟩ := List.mem_map.mp hx
  have := List.mem_range.mp hj
  have h5 := h.l5
  exact pow_up (sq_big h.r.fok h.b _) (by omega)
theorem sd_py {v : List Int} {n : Nat} (h : v.length ≤ 1000) : SD (n + 2) (pyD v) := .tup (n + 1) _ (fun d hd => by
  obtain ⟨x, _, rfl⟩ := List.mem_map.mp hd
  exact .tup n _ (fun e he => by
    simp only [List.mem_cons, List.not_mem_nil, or_false] at he
    rcases he with rfl | rfl <;> exact .int _ _) (by show 2 ≤ 100000; decide)) (by rw [List.length_map]; omega)
theorem sd_py2 {u v : List Int} (hu : u.length ≤ 1000) (hv : v.length ≤ 1000) : SD 4 (.tup [pyD u, pyD v]) := .tup 3 _ (fun d hd => by
  simp only [List.mem_cons, List.not_mem_nil, or_false] at hd
  rcases hd with rfl | rfl
  · exact sd_py hu
  · exact sd_py hv) (by show 2 ≤ 100000; decide)
theorem sd_sh {p : Int × Int} {n : Nat} : SD (n + 1) (shD p) := .tup n _ (fun e he => by
  simp only [List.mem_cons, List.not_mem_nil, or_false] at he
  rcases he with rfl | rfl <;> exact .int _ _) (by show 2 ≤ 100000; decide)
end Pf

namespace Pf
open PySem L2 Dl Sh
open Evl (Ex)
open Ry
local macro_rules | `(tactic| walk_at "r0") => `(tactic| with_reducible first
  | refine sw_seq ?_
  | refine ew_var rfl ?_
  | refine ew_int ?_
  | refine ew_bl ?_
  | refine ew_non ?_
  | refine ew_str ?_
  | refine aw_cons ?_
  | refine aw_nil ?_
  | refine sw_par ?_
  | refine sw_next ?_
  | refine sw_if ?_
  | refine sw_ret ?_
  | refine tw_not ?_
  | refine tw_and ?_
  | refine tw_or ?_
  | refine tw_test ?_
  | refine tw_B ?_
  | refine tw_tru rfl ?_
  | refine ew_andV ?_
  | refine ew_orV ?_
  | refine ew_notV ?_
  | refine ew_if ?_
  | refine ew_chain ?_
  | refine ew_isN ?_
  | refine ew_tup ?_
  | refine ew_lst ?_
  | refine ew_isiD isN_int rfl ?_
  | refine ew_isiD isN_bool rfl ?_
  | refine ew_isiD isN_tuple rfl ?_
  | refine ew_isiD isN_list rfl ?_
  | refine ew_isiD isN_str rfl ?_
  | refine ew_isi2D isN_list isN_tuple rfl ?_
  | refine ew_isi2D isN_tuple isN_list rfl ?_
  | refine ew_cb ?_
  | refine ew_neg ?_
  | refine ew_op ?_
  | refine ⟨_, opv_int, ?_⟩
  | refine ⟨_, opv_cmp, ?_⟩
  | refine ⟨_, opv_eq, ?_⟩
  | refine ⟨_, opv_ne, ?_⟩
  | refine ⟨_, opv_eqB, ?_⟩
  | refine ⟨_, opv_eqS, ?_⟩
  | refine ⟨_, cbv_abs, ?_⟩
  | refine ⟨_, cbv_max2, ?_⟩
  | refine ⟨_, cbv_min2, ?_⟩
  | refine pw_none ?_
  | refine pw_some ?_
  | refine ⟨_, cbv_int, ?_⟩
  | refine ⟨_, rfl, ?_⟩
  | refine ⟨_, _, rfl, ?_⟩
  | refine ⟨_, _, _, rfl, ?_⟩
  | refine ⟨_, _, _, _, rfl, ?_⟩
  | refine br_t ?_
  | refine br_f ?_
  | refine ⟨dt_int, ?_⟩
  | refine ⟨dt_bl, ?_⟩
  | refine ⟨dt_str, ?_⟩
  | refine ⟨dt_non, ?_⟩
  | refine ⟨dt_tup, ?_⟩
  | refine ⟨dt_lst, ?_⟩
  | refine sw_asg ?_
  | refine sw_drop ?_)
local macro_rules | `(tactic| walk_at "r1") => `(tactic| first
  | ((with_reducible refine ew_tupL ?hK ?_); (case hK => rfl))
  | ((with_reducible refine ew_catT ?hK ?_); (case hK => rfl))
  | ((with_reducible refine ew_repT ?hK ?_); (case hK => rfl))
  | ((with_reducible refine ew_of_eb (eb_listL ?hK ?_)); (case hK => rfl))
  | ((with_reducible refine ew_of_eb (eb_cutL ?hK ?_)); (case hK => rfl))
  | walk_at "r0"
  | ((with_reducible refine ew_of_eb (eb_mapT ?hV ?hK ?_)); (case hK => rfl); (case hV => rfl))
  | ((with_reducible refine ew_of_eb (eb_mapL ?hV ?hK ?_)); (case hK => rfl); (case hV => rfl))
  | ((with_reducible refine ew_of_eb (eb_mapR ?hV ?_)); (case hV => rfl))
  | ((with_reducible refine ew_callP ?hK trivial ?_); (case hK => rfl))
  | ((with_reducible refine ew_callW ?hK trivial ?_); (case hK => rfl))
  | ((with_reducible refine ew_callH ?hK trivial ?_); (case hK => rfl))
  | ((with_reducible refine ew_callR ?hK ?hF ?_); (case hK => rfl); (case hF => assumption))
  | ((with_reducible refine len_ok ?hK ?_); (case hK => rfl))
  | ((with_reducible refine ew_notT ?hK ?_); (case hK => rfl))
  | ((with_reducible refine ew_cutT ?hK ?_); (case hK => rfl))
  | ((with_reducible refine ⟨(?hK : Dt _ _), ?_⟩); (case hK => assumption))
  | ((with_reducible refine sw_unp2 ?hK ?hn ?_); (case hK => rfl); (case hn => rfl)))
local macro_rules | `(tactic| walk_at "side") => `(tactic| first
  | exact Or.inr (by decide)
  | exact Or.inl (by decide)
  | exact ⟨by decide, by decide⟩
  | exact ⟨by decide, by decide, by decide⟩
  | decide
  | (dsimp only; decide)
  | exact mw (by assumption) (by assumption))
local macro_rules | `(tactic| walk_at "r2") => `(tactic| first
  | walk_at "r1"
  | ((with_reducible refine ⟨_, opv_intC ?hC, ?_⟩); (case hC => walk_at "side"))
  | ((with_reducible refine ⟨_, cbv_lenL ?hK, ?_⟩); (case hK => rfl))
  | ((with_reducible refine ⟨_, cbv_allM ?hK, ?_⟩); (case hK => rfl))
  | ((with_reducible refine ⟨_, cbv_anyM ?hK, ?_⟩); (case hK => rfl))
  | ((with_reducible refine ⟨_, cbv_sumM ?hK, ?_⟩); (case hK => rfl))
  | ((with_reducible refine ⟨_, cbv_lenT ?hK, ?_⟩); (case hK => rfl))
  | (with_reducible refine ⟨_, opv_ixT (by with_unfolding_all rfl) (by with_unfolding_all rfl), ?_⟩)
  | refine br_t ?_
  | refine br_f ?_)
local macro_rules | `(tactic| walk_at "rd") => `(tactic| repeat (walk_at "r2"))
local macro_rules | `(tactic| walk_at "rs") => `(tactic| repeat ((fail_if_success (with_reducible refine sw_isif ?_)); walk_at "r2"))
local macro_rules | `(tactic| walk_at "nf") => `(tactic| (try simp only [List.set_cons_zero, List.set_cons_succ, Dl.sets, Dl.asD]))
local macro_rules | `(tactic| walk_at "ru") => `(tactic| repeat ((fail_if_success (with_reducible refine sw_seq ?_)); walk_at "r2"))

theorem val_sm {v : List Int} {p : Int × Int} (hp : p.2 ≠ 0) (hB : Big 200 v) (h1 : p.1.natAbs < 2 ^ 3) (h2 : p.2.natAbs < 2 ^ 3) (hl : v.length ≤ 6) : Sm 400 (valS v p) := by
  unfold valS
  by_cases h : v = []
  · rw [if_pos h]
    exact ⟨Nat.pos_of_ne_zero (fun e => by simp at e), Nat.one_lt_two_pow (by decide)⟩
  · rw [if_neg h]
    exact red_sm (Int.pow_ne_zero hp) (pow_up (hT_bdG h1 h2 hB) (by omega)) (pow_up (pw_bdG h2 _) (by omega))
theorem over_sm {a b : Int × Int} (ha : Sm 400 a) (hb : Sm 400 b) (h : a.2 * b.1 ≠ 0) : Sm 4400 (red (a.1 * b.2) (a.2 * b.1)) := red_sm h (pow_up (mul_bd ha.1 hb.2) (by decide)) (pow_up (mul_bd ha.2 hb.1) (by decide))
theorem sm44 {a : Int × Int} (ha : Sm 400 a) : Sm 4400 a := ⟨sm_mono ha.1 (by decide), sm_mono ha.2 (by decide)⟩
theorem sm_ix {v : List Int} {i : Nat} (h : i < v.length) : (v.map onD)[i]? = some (onD (v.getD i 0)) := by
  rw [List.getElem?_map, List.getElem?_eq_getElem h, List.getD_eq_getElem?_getD, List.getElem?_eq_getElem h]
  rfl
theorem sm_one : Sm 4400 ((0 : Int), (1 : Int)) := ⟨Nat.pos_of_ne_zero (fun e => by simp at e), Nat.one_lt_two_pow (by decide)⟩
theorem sm_1 : Sm 4400 ((1 : Int), (1 : Int)) := ⟨Nat.one_lt_two_pow (by decide), Nat.one_lt_two_pow (by decide)⟩
def numsL : List D := [.int (-3), .int (-2), .int (-1), .int 1, .int 2, .int 3, .int 5]
theorem nums_in {y : D} (h : y ∈ numsL) : ∃ v : Int, y = .int v ∧ v ≠ 0 ∧ v.natAbs ≤ 5 := by
  unfold numsL at h
  simp only [List.mem_cons, List.not_mem_nil, or_false] at h
  rcases h with rfl | rfl | rfl | rfl | rfl | rfl | rfl <;> exact ⟨_, rfl, by decide, by decide⟩
abbrev c__law_fractions_right (A : Ad) : Cn := fun K w ds Ψ Ξ => ∃ (f S : List Int) (n : Nat), ds = [.ptr w, rwD f S, rowD A f S, lI (winL f S n), .int n] ∧ LRow f S ∧ 20 ≤ n ∧ n ≤ 40 ∧ Ψ (.fz (.bl true))
theorem l__law_fractions_right (A : Ad) : ∀ K w ds Ψ Ξ, (c__law_fractions_right A) K w ds Ψ Ξ → ds.length = 5 := fun K w ds Ψ Ξ h => by
  obtain ⟨_, _, _, rfl, _⟩ := h
  rfl
theorem ok__law_fractions_right {P : Program} {w : World} {K : PySem.W.Frag} {mg : Str → Option Value} {base : Heap} {A : Ad} (T : Txt K mg A) : FnOk P w K mg base CX0 11 A._law_fractions_right A.fd__law_fractions_right ["source", "row", "made", "window", "far"] (SpD K IsSrc (c__law_fractions_right A)) := by
  refine Fun.ok T.F__law_fractions_right sc__law_fractions_right (fun vs H Q E h => spd_len (l__law_fractions_right A) h) (fun cdv A' outer s H vs Q E hr h => ⟨_, (pss_cons (ps_set (i := 5) sc__law_fractions_right.nd rfl (.inl rfl) (pe_call (ok__law_dues T) (hr.mono (by decide)) (by rfl) T.m__law_dues T.F__law_dues.kp (b__law_dues T) .nil pass0 (pa_cons (pv 1) (pa_cons (pv 3) (pa_cons (pv 4) pa_nil)))))
        (pss_cons (ps_set (i := 6) sc__law_fractions_right.nd rfl (.inl rfl) (pe_callK0 (ok_fraction T) (hr.mono (by decide)) (by rfl) T.m_fraction T.F_fraction.kp (kb_fraction_0_row T) pass0 (pk_cons (pv 2) pk_nil)))
        (pss_cons (ps_set (i := 7) sc__law_fractions_right.nd rfl (.inl rfl) (pe_callK0 (ok_back_fraction T) (hr.mono (by decide)) (by rfl) T.m_back_fraction T.F_back_fraction.kp (kb_back_fraction_0_row T) pass0 (pk_cons (pv 2) pk_nil)))
        (pss_cons (ps_if (pt_not (pt_val (pe_call (ok__law_same T) (hr.mono (by decide)) (by rfl) T.m__law_same T.F__law_same.kp (b__law_same T) .nil pass0 (pa_cons (pv 6) (pa_cons (pe_tup (pa_cons (pe_call (ok__law_poly T) (hr.mono (by decide)) (by rfl) T.m__law_poly T.F__law_poly.kp (b__law_poly T) .nil pass0 (pa_cons (pe_ix ix_list (pv 5) pe_int (fun _ _ => rfl)) pa_nil)) (pa_cons (pe_call (ok__law_poly T) (hr.mono (by decide)) (by rfl) T.m__law_poly T.F__law_poly.kp (b__law_poly T) .nil pass0 (pa_cons (pe_ix ix_list (pv 5) pe_int (fun _ _ => rfl)) pa_nil)) pa_nil))) pa_nil))))) (pss_one (ps_ret pe_bl)) pss_nil)
        (pss_cons (ps_if (pt_not (pt_val (pe_call (ok__law_same T) (hr.mono (by decide)) (by rfl) T.m__law_same T.F__law_same.kp (b__law_same T) .nil pass0 (pa_cons (pv 7) (pa_cons (pe_tup (pa_cons (pe_call (ok__law_poly T) (hr.mono (by decide)) (by rfl) T.m__law_poly T.F__law_poly.kp (b__law_poly T) .nil pass0 (pa_cons (pe_ix ix_list (pv 5) pe_int (fun _ _ => rfl)) pa_nil)) (pa_cons (pe_call (ok__law_poly T) (hr.mono (by decide)) (by rfl) T.m__law_poly T.F__law_poly.kp (b__law_poly T) .nil pass0 (pa_cons (pe_ix ix_list (pv 5) pe_int (fun _ _ => rfl)) pa_nil)) pa_nil))) pa_nil))))) (pss_one (ps_ret pe_bl)) pss_nil)
        (pss_cons (ps_set (i := 8) sc__law_fractions_right.nd rfl (.inl rfl) (pe_op op_add pe_int (pe_call (ok__law_draw T) (hr.mono (by decide)) (by rfl) T.m__law_draw T.F__law_draw.kp (b__law_draw T) .nil pass0 (pa_cons (pv 0) (pa_cons pe_int pa_nil)))))
        (pss_cons (ps_set (i := 9) sc__law_fractions_right.nd rfl (.inl rfl) (pe_call (ok_poly_of T) (hr.mono (by decide)) (by rfl) T.m_poly_of T.F_poly_of.kp (b_poly_of T) .nil pass0 (pa_cons (pe_lc (own := [("k", 10)]) (by rfl) sc__law_fractions_right.nd (pi_range1 (by rfl) T.b_range (pa_cons (pv 8) pa_nil)) (blkOk_by (own := [("k", 10)]) (N := ["source", "row", "made", "window", "far", "dues", "told", "back", "many", "series", "k", "product", "due", "num", "x", "turned", "under", "above"]) (sc := defScope s__law_fractions_right) (by decide +kernel)) (fun _ _ _ _ _ => (pg_name (i := 10) sc__law_fractions_right.nd rfl (.inl rfl))) (fun _ _ _ _ _ => pts_nil) (fun _ _ _ _ _ => (pe_meth (pv 2) T.cl_Row T.me_Row__term (ok_Row__term T) (hr.mono (by decide)) (b_Row__term T) .nil passLN (pa_cons (pv 10) pa_nil)))) pa_nil)))
        (pss_cons (ps_set (i := 11) sc__law_fractions_right.nd rfl (.inl rfl) (pe_call (ok_poly_times T) (hr.mono (by decide)) (by rfl) T.m_poly_times T.F_poly_times.kp (b_poly_times T) .nil pass0 (pa_cons (pv 9) (pa_cons (pe_ix ix_tup (pv 6) pe_int (fun _ _ => rfl)) pa_nil))))
        (pss_cons (ps_for PassesOwn.never rfl (pi_range1 (by rfl) T.b_range (pa_cons (pv 8) pa_nil)) (pg_name (i := 10) sc__law_fractions_right.nd rfl (.inl rfl)) (pss_cons (ps_set (i := 12) sc__law_fractions_right.nd rfl (.inl rfl) (pe_tup (pa_cons pe_int (pa_cons pe_int pa_nil))))
        (pss_cons (ps_if (pt_cmpR op_lt (pv 10) (pe_callB call_len_seq (by rfl) T.b_len (by decide +kernel) (pa_cons (pe_ix ix_list (pv 5) pe_int (fun _ _ => rfl)) pa_nil)) (nomark _)) (pss_one (ps_set (i := 12) sc__law_fractions_right.nd rfl (.inl rfl) (pe_tup (pa_cons (pe_ix ix_list (pe_ix ix_list (pv 5) pe_int (fun _ _ => rfl)) (pv 10) (fun _ _ => rfl)) (pa_cons pe_int pa_nil))))) pss_nil)
        (pss_cons (ps_if (PW.pt (pw_and (pt_cmpR op_lt (pv 10) (pe_callB call_len_seq (by rfl) T.b_len (by decide +kernel) (pa_cons (pv 11) pa_nil)) (nomark _)) (pw_and1 (pt_not (pt_val (pe_call (ok__law_same T) (hr.mono (by decide)) (by rfl) T.m__law_same T.F__law_same.kp (b__law_same T) .nil pass0 (pa_cons (pe_ix ix_tup (pv 11) (pv 10) (fun _ _ => rfl)) (pa_cons (pv 12) pa_nil)))))))) (pss_one (ps_ret pe_bl)) pss_nil)
        (pss_one (ps_if (PW.pt (pw_and (pt_cmpR op_ge (pv 10) (pe_callB call_len_seq (by rfl) T.b_len (by decide +kernel) (pa_cons (pv 11) pa_nil)) (nomark _)) (pw_and1 (pt_cmpR (op_neD hr.units) (pv 12) (pe_tup (pa_cons pe_int (pa_cons pe_int pa_nil))) (nomark _))))) (pss_one (ps_ret pe_bl)) pss_nil))))))
        (pss_cons (ps_set (i := 13) sc__law_fractions_right.nd rfl (.inl rfl) (pe_call (ok__law_pick T) (hr.mono (by decide)) (by rfl) T.m__law_pick T.F__law_pick.kp (b__law_pick T) .nil pass0 (pa_cons (pv 0) (pa_cons (pe_lst (pa_cons (pe_un un_neg pe_int) (pa_cons (pe_un un_neg pe_int) (pa_cons (pe_un un_neg pe_int) (pa_cons pe_int (pa_cons pe_int (pa_cons pe_int (pa_cons pe_int pa_nil)))))))) pa_nil))))
        (pss_cons (ps_set (i := 14) sc__law_fractions_right.nd rfl (.inl rfl) (pe_call (ok__law_share T) (hr.mono (by decide)) (by rfl) T.m__law_share T.F__law_share.kp (b__law_share T) .nil pass0 (pa_cons (pv 13) (pa_cons (pe_op op_add pe_int (pe_call (ok__law_draw T) (hr.mono (by decide)) (by rfl) T.m__law_draw T.F__law_draw.kp (b__law_draw T) .nil pass0 (pa_cons (pv 0) (pa_cons pe_int pa_nil)))) pa_nil))))
        (pss_cons (ps_set (i := 15) sc__law_fractions_right.nd rfl (.inl rfl) (pe_call (ok__law_share T) (hr.mono (by decide)) (by rfl) T.m__law_share T.F__law_share.kp (b__law_share T) .nil pass0 (pa_cons (pe_ix ix_tup (pv 14) pe_int (fun _ _ => rfl)) (pa_cons (pe_ix ix_tup (pv 14) pe_int (fun _ _ => rfl)) pa_nil))))
        (pss_cons (ps_set (i := 16) sc__law_fractions_right.nd rfl (.inl rfl) (pe_call (ok__law_at T) (hr.mono (by decide)) (by rfl) T.m__law_at T.F__law_at.kp (b__law_at T) .nil pass0 (pa_cons (pe_ix ix_list (pv 5) pe_int (fun _ _ => rfl)) (pa_cons (pv 15) pa_nil))))
        (pss_cons (ps_if (pt_cmpR op_eq (pe_ix ix_tup (pv 16) pe_int (fun _ _ => rfl)) pe_int (nomark _)) (pss_one (ps_ret pe_bl)) pss_nil)
        (pss_cons (ps_set (i := 17) sc__law_fractions_right.nd rfl (.inl rfl) (pe_call (ok__law_at T) (hr.mono (by decide)) (by rfl) T.m__law_at T.F__law_at.kp (b__law_at T) .nil pass0 (pa_cons (pe_ix ix_list (pv 5) pe_int (fun _ _ => rfl)) (pa_cons (pv 15) pa_nil))))
        (pss_cons (ps_set (i := 12) sc__law_fractions_right.nd rfl (.inl rfl) (pe_call (ok__law_share T) (hr.mono (by decide)) (by rfl) T.m__law_share T.F__law_share.kp (b__law_share T) .nil pass0 (pa_cons (pe_op op_sub pe_int (pe_op op_mulW (pe_ix ix_tup (pv 17) pe_int (fun _ _ => rfl)) (pe_ix ix_tup (pv 16) pe_int (fun _ _ => rfl)))) (pa_cons (pe_op op_mulW (pe_ix ix_tup (pv 17) pe_int (fun _ _ => rfl)) (pe_ix ix_tup (pv 16) pe_int (fun _ _ => rfl))) pa_nil))))
        (pss_cons (ps_if (pt_not (pt_val (pe_call (ok__law_same T) (hr.mono (by decide)) (by rfl) T.m__law_same T.F__law_same.kp (b__law_same T) .nil pass0 (pa_cons (pe_call (ok_over T) (hr.mono (by decide)) (by rfl) T.m_over T.F_over.kp (b_over T) .nil passLN (pa_cons (pe_call (ok_value_at T) (hr.mono (by decide)) (by rfl) T.m_value_at T.F_value_at.kp (b_value_at T) .nil passLN (pa_cons (pe_ix ix_tup (pv 7) pe_int (fun _ _ => rfl)) (pa_cons (pv 14) pa_nil))) (pa_cons (pe_call (ok_value_at T) (hr.mono (by decide)) (by rfl) T.m_value_at T.F_value_at.kp (b_value_at T) .nil passLN (pa_cons (pe_ix ix_tup (pv 7) pe_int (fun _ _ => rfl)) (pa_cons (pv 14) pa_nil))) pa_nil))) (pa_cons (pv 12) pa_nil))))) (pss_one (ps_ret pe_bl)) pss_nil)
        (pss_cons (ps_set (i := 15) sc__law_fractions_right.nd rfl (.inl rfl) (pe_call (ok_over T) (hr.mono (by decide)) (by rfl) T.m_over T.F_over.kp (b_over T) .nil passLN (pa_cons pe_int (pa_cons (pv 14) pa_nil))))
        (pss_one (ps_ret (pe_call (ok__law_same T) (hr.mono (by decide)) (by rfl) T.m__law_same T.F__law_same.kp (b__law_same T) .nil pass0 (pa_cons (pe_call (ok_less T) (hr.mono (by decide)) (by rfl) T.m_less T.F_less.kp (b_less T) .nil pass0 (pa_cons (pe_tup (pa_cons pe_int (pa_cons pe_int pa_nil))) (pa_cons (pe_call (ok_over T) (hr.mono (by decide)) (by rfl) T.m_over T.F_over.kp (b_over T) .nil passLN (pa_cons (pe_call (ok_value_at T) (hr.mono (by decide)) (by rfl) T.m_value_at T.F_value_at.kp (b_value_at T) .nil passLN (pa_cons (pe_ix ix_tup (pv 6) pe_int (fun _ _ => rfl)) (pa_cons (pv 15) pa_nil))) (pa_cons (pe_callK0 (ok_value_at T) (hr.mono (by decide)) (by rfl) T.m_value_at T.F_value_at.kp (kb_value_at_0_poly_x T) passLN (pk_cons (pe_ix ix_tup (pv 6) pe_int (fun _ _ => rfl)) (pk_cons (pv 15) pk_nil))) pa_nil))) pa_nil))) (pa_cons (pv 12) pa_nil))))))))))))))))))))))), ?_⟩)
  refine body_ok 5 (by decide) (l__law_fractions_right A) h (fun Γ ds Ψ Ξ hK hX hF hc ke => ?_)
  subst hK
  obtain ⟨f, S, n, rfl, hL, n0, n1, hc⟩ := hc
  have hr := hL.r
  have h5 := hL.l5
  have hp := List.length_pos_iff.mpr hr.fok.ne
  have hbl : (botF f).length = f.length + 1 := botF_len
  have hbt : (botF (turnF f)).length = f.length + 1 := by rw [botF_len, turn_len hr.fok]
  have hfl := frac_len (f := f) (S := S)
  have hul := und_len (f := f) (S := S)
  have bT : Big 200 (fracT f S) := big_mono (frac_big hL) (by decide)
  have bB : Big 200 (botF f) := big_mono (bt_big hL) (by decide)
  have bU : Big 200 (underL f S) := big_mono (und_big hL) (by decide)
  have bV : Big 200 (botF (turnF f)) := big_mono (botF_big (turn_ok hr.fok)) (by decide)
  have at0 : atI [lI (fracT f S), lI (botF f), lI (underL f S), lI (botF (turnF f))] 0 = some (lI (fracT f S)) := rfl
  have at1 : atI [lI (fracT f S), lI (botF f), lI (underL f S), lI (botF (turnF f))] 1 = some (lI (botF f)) := rfl
  have at2 : atI [lI (fracT f S), lI (botF f), lI (underL f S), lI (botF (turnF f))] 2 = some (lI (underL f S)) := rfl
  have at3 : atI [lI (fracT f S), lI (botF f), lI (underL f S), lI (botF (turnF f))] 3 = some (lI (botF (turnF f))) := rfl
  refine sw_seq (sw_asg (ew_callP rfl trivial (aw_cons (ew_var rfl (aw_cons (ew_var rfl (aw_cons (ew_var rfl (aw_nil ⟨f, S, n, rfl, hr, big_mono hL.b (by decide), by omega, by omega, by omega, big_mono (und_bigS hL) (by decide), ?_⟩)))))))))
  refine sw_seq (sw_asg (ew_callW rfl trivial (aw_nil (aw_cons (ew_var rfl (aw_nil ⟨f, S, rfl, hr, big_mono hL.b (by decide), ?_⟩))))))
  refine sw_seq (sw_asg (ew_callW rfl trivial (aw_nil (aw_cons (ew_var rfl (aw_nil ⟨f, S, rfl, hr, big_mono hL.b (by decide), big_mono (bB_big hL) (by decide), ?_⟩))))))
  rw [und_eq hr]
  refine sw_seq (sw_if (tw_not (tw_B (ew_callP rfl trivial (aw_cons (ew_var rfl (aw_cons (ew_tup ?_))))))))
  refine aw_cons (ew_callP rfl trivial (aw_cons (ew_op (ew_var rfl (ew_int ⟨_, opv_ixL rfl at0, aw_nil ⟨fracT f S, rfl, by omega, ?_⟩⟩)))))
  refine aw_cons (ew_callP rfl trivial (aw_cons (ew_op (ew_var rfl (ew_int ⟨_, opv_ixL rfl at1, aw_nil ⟨botF f, rfl, by omega, aw_nil ⟨by show 2 ≤ 100000; decide, ?_⟩⟩⟩)))))
  refine aw_nil (same_in (sd_py2 (by omega) (by omega)) ⟨_, rfl, (fun z => by cases z), fun _ => sw_next ?_⟩)
  refine sw_seq (sw_if (tw_not (tw_B (ew_callP rfl trivial (aw_cons (ew_var rfl (aw_cons (ew_tup ?_))))))))
  refine aw_cons (ew_callP rfl trivial (aw_cons (ew_op (ew_var rfl (ew_int ⟨_, opv_ixL rfl at2, aw_nil ⟨underL f S, rfl, by omega, ?_⟩⟩)))))
  refine aw_cons (ew_callP rfl trivial (aw_cons (ew_op (ew_var rfl (ew_int ⟨_, opv_ixL rfl at3, aw_nil ⟨botF (turnF f), rfl, by omega, aw_nil ⟨by show 2 ≤ 100000; decide, ?_⟩⟩⟩)))))
  refine aw_nil (same_in (sd_py2 (by omega) (by omega)) ⟨_, rfl, (fun z => by cases z), fun _ => sw_next ?_⟩)
  refine sw_seq (sw_asg (ew_op (ew_int ?_)))
  walk_at "ru"
  refine ⟨by decide, by decide, fun dd d0 d1 => ?_⟩
  refine ⟨_, opv_int, ?_⟩
  obtain ⟨m, hm⟩ : ∃ m : Nat, (3 : Int) + dd = (m : Int) := ⟨(3 + dd).toNat, by omega⟩
  rw [hm]
  have hsl : (segL f S 0 m).length = m := by
    unfold segL
    rw [List.length_map, List.length_range]
  have hs2 := trim_len (v := segL f S 0 m)
  refine sw_seq (sw_asg (ew_callP rfl trivial (aw_cons (ew_of_eb (eb_mapR rfl (aw_cons (ew_var rfl (aw_nil ⟨_, rfl, by omega, (fun es z => by cases z), by rw [rngD_len]; omega, winP f S, fun x hx c => ?_, ?_⟩))))))))
  · rw [Int.toNat_natCast] at hx
    obtain ⟨i, hi, rfl⟩ := rng_mem hx
    refine ew_meth rfl trivial (ew_var rfl ⟨_, rfl, rfl, aw_cons (ew_var rfl (aw_nil ⟨f, S, _, rfl, dt_int, hr, fun j e => ?_, (fun z => by cases z)⟩))⟩)
    obtain rfl := D.int.inj e
    exact ⟨by omega, rfl, rfl⟩
  · have e5 : (rngD (m : Int).toNat).map (winP f S) = (segL f S 0 m).map D.int := by
      rw [Int.toNat_natCast, rng_map]
      unfold segL
      rw [List.map_map]
      apply List.map_congr_left
      intro i _
      show D.int (Rw.sq f S (i : Int)) = D.int (Rw.sq f S (0 + (i : Int)))
      rw [Int.zero_add]
    rw [e5]
    refine aw_nil (.inr ⟨segL f S 0 m, rfl, by omega, ?_⟩)
    refine sw_seq (sw_asg (ew_callP rfl trivial (aw_cons (ew_var rfl (aw_cons (ew_op (ew_var rfl (ew_int ⟨_, opv_ixT rfl rfl, aw_nil ⟨trimR (segL f S 0 m), botF f, rfl, by omega, by omega, ser_big hL (by omega), big_mono bB (by decide), ?_⟩⟩))))))))
    generalize hpr : trimR (mulR (trimR (segL f S 0 m)) (botF f)) = pr
    have hprl : pr.length ≤ 1000 := by
      have h1 := trim_len (v := mulR (trimR (segL f S 0 m)) (botF f))
      have h2 := mulR_len (v := trimR (segL f S 0 m)) (u := botF f)
      rw [hpr] at h1
      omega
    refine sw_seq (sw_forR (aw_cons (ew_var rfl (aw_nil ⟨_, rfl, by omega, fun i ρ => ∃ c10 c12 : Option B, ρ = [some (.fz (.ptr Γ.R.w)), some (.fz (rwD f S)), some (.fz (rowD A f S)), some (.fz (lI (winL f S n))), some (.fz (.int n)), some (.fz (.lst [lI (fracT f S), lI (botF f), lI (underL f S), lI (botF (turnF f))])), some (.fz (.tup [pyD (fracT f S), pyD (botF f)])), some (.fz (.tup [pyD (underL f S), pyD (botF (turnF f))])), some (.fz (.int m)), some (.fz (pyD (trimR (segL f S 0 m)))), c10, some (.fz (pyD pr)), c12, none, none, none, none, none], ⟨none, none, rfl⟩, ?_, ?_⟩))))
    · rintro i ρ2 hi ⟨c10, c12, rfl⟩
      refine ⟨_, gd_name, ?_⟩
      have hi : i < m := by
        rw [Int.toNat_natCast] at hi
        exact hi
      have hser := ser_prod hr hi
      rw [hpr] at hser
      refine sw_seq (sw_asg (ew_tup (aw_cons (ew_int (aw_cons (ew_int (aw_nil ⟨by show 2 ≤ 100000; decide, ?_⟩)))))))
      refine sw_cut (fun ρ => ρ = [some (.fz (.ptr Γ.R.w)), some (.fz (rwD f S)), some (.fz (rowD A f S)), some (.fz (lI (winL f S n))), some (.fz (.int n)), some (.fz (.lst [lI (fracT f S), lI (botF f), lI (underL f S), lI (botF (turnF f))])), some (.fz (.tup [pyD (fracT f S), pyD (botF f)])), some (.fz (.tup [pyD (underL f S), pyD (botF (turnF f))])), some (.fz (.int m)), some (.fz (pyD (trimR (segL f S 0 m)))), some (.fz (.int i)), some (.fz (pyD pr)), some (.fz (onD ((fracT f S).getD i 0))), none, none, none, none, none]) ?_ ?_
      · refine sw_if (tw_test (ew_op (ew_var rfl (ew_cb (aw_cons (ew_op (ew_var rfl (ew_int ⟨_, opv_ixL rfl at0, aw_nil ⟨_, cbv_lenL rfl, ?_⟩⟩))))))))
        rw [List.length_map]
        refine ⟨_, opv_cmp, _, rfl, fun h1 => ?_, fun h1 => ?_⟩
        · have h1 : (i : Int) < ((fracT f S).length : Int) := of_decide_eq_true h1
          refine sw_asg (ew_tup (aw_cons (ew_op (ew_op (ew_var rfl (ew_int ⟨_, opv_ixL rfl at0, ew_var rfl ⟨_, opv_ixIL rfl (by omega) (by omega), aw_cons (ew_int (aw_nil ⟨by show 2 ≤ 100000; decide, ?_⟩))⟩⟩))))))
          rfl
        · have h1 : ¬ (i : Int) < ((fracT f S).length : Int) := of_decide_eq_false h1
          refine sw_next ?_
          rw [getD_out (by omega)]
          rfl
      · rintro ρ rfl
        refine sw_cut (fun ρ => ρ = [some (.fz (.ptr Γ.R.w)), some (.fz (rwD f S)), some (.fz (rowD A f S)), some (.fz (lI (winL f S n))), some (.fz (.int n)), some (.fz (.lst [lI (fracT f S), lI (botF f), lI (underL f S), lI (botF (turnF f))])), some (.fz (.tup [pyD (fracT f S), pyD (botF f)])), some (.fz (.tup [pyD (underL f S), pyD (botF (turnF f))])), some (.fz (.int m)), some (.fz (pyD (trimR (segL f S 0 m)))), some (.fz (.int i)), some (.fz (pyD pr)), some (.fz (onD ((fracT f S).getD i 0))), none, none, none, none, none]) ?_ ?_
        · refine sw_if (tw_and (tw_test (ew_op (ew_var rfl (ew_cb (aw_cons (ew_var rfl (aw_nil ⟨_, cbv_lenT rfl, ?_⟩))))))))
          rw [List.length_map]
          refine ⟨_, opv_cmp, _, rfl, fun h1 => ?_, fun h1 => br_f (sw_next rfl)⟩
          have h1 : (i : Int) < (pr.length : Int) := of_decide_eq_true h1
          have hix : (pr.map onD)[i]? = some (onD ((fracT f S).getD i 0)) := by rw [sm_ix (by omega), hser]
          refine tw_not (tw_B (ew_callP rfl trivial (aw_cons (ew_op (ew_var rfl (ew_var rfl ⟨_, opv_ixT rfl (at_nat hix), aw_cons (ew_var rfl (aw_nil ?_))⟩))))))
          exact same_in sd_sh ⟨_, rfl, (fun z => by cases z), fun _ => sw_next rfl⟩
        · rintro ρ rfl
          refine sw_if (tw_and (tw_test (ew_op (ew_var rfl (ew_cb (aw_cons (ew_var rfl (aw_nil ⟨_, cbv_lenT rfl, ?_⟩))))))))
          rw [List.length_map]
          refine ⟨_, opv_cmp, _, rfl, fun h1 => ?_, fun h1 => br_f (sw_next ⟨_, _, rfl⟩)⟩
          have h1 : (i : Int) ≥ (pr.length : Int) := of_decide_eq_true h1
          have e0 : (fracT f S).getD i 0 = 0 := by rw [← hser, getD_out (by omega)]
          refine tw_test (ew_op (ew_var rfl (ew_tup (aw_cons (ew_int (aw_cons (ew_int (aw_nil ⟨by show 2 ≤ 100000; decide, _, opv_neD rfl py_pair py_pair shaped_pair shaped_pair, _, rfl, fun z => ?_, fun _ => sw_next ⟨_, _, rfl⟩⟩))))))))
          rw [e0] at z
          cases z
    · rintro ρ2 ⟨c10, c12, rfl⟩
      refine sw_seq (sw_asg (ew_callR rfl hF (aw_cons (ew_var rfl (aw_cons (ew_lst ?_))))))
      refine aw_cons (ew_neg (ew_int ⟨_, rfl, aw_cons (ew_neg (ew_int ⟨_, rfl, aw_cons (ew_neg (ew_int ⟨_, rfl, aw_cons (ew_int (aw_cons (ew_int (aw_cons (ew_int (aw_cons (ew_int (aw_nil ⟨by show 7 ≤ 100000; decide, ?_⟩))))))))⟩))⟩))⟩))
      refine aw_nil ⟨numsL, rfl, by decide, by decide, fun y hy => ?_⟩
      obtain ⟨v, rfl, v0, v1⟩ := nums_in hy
      refine sw_seq (sw_asg (ew_callP rfl trivial (aw_cons (ew_var rfl (aw_cons (ew_op (ew_int (ew_callR rfl hF (aw_cons (ew_var rfl (aw_cons (ew_int (aw_nil ⟨_, rfl, by decide, by decide, fun e e0 e1 => ⟨_, opv_int, ?_⟩⟩)))))))))))))
      have e3 : (2 : Nat) ^ 3 = 8 := rfl
      have hv3 : v.natAbs < 2 ^ 3 := by omega
      have he3 : (1 + e).natAbs < 2 ^ 3 := by omega
      refine aw_nil ⟨v, 1 + e, rfl, by omega, sm_mono hv3 (by decide), sm_mono he3 (by decide), ?_⟩
      have hx := red_sh (a := v) (b := 1 + e) (by omega)
      have hxs := red_sm (a := v) (b := 1 + e) (n := 3) (by omega) hv3 he3
      have hxv := red_val (a := v) (b := 1 + e) (by omega)
      obtain ⟨X, hX⟩ : ∃ X, red v (1 + e) = X := ⟨_, rfl⟩
      rw [hX] at hx hxs hxv ⊢
      have hx2 := hx.pos
      have hx1 : X.1 ≠ 0 := fun z => by
        rw [z, Int.zero_mul] at hxv
        rcases Int.mul_eq_zero.mp hxv.symm with h | h <;> omega
      refine sw_seq (sw_asg (ew_callP rfl trivial (aw_cons (ew_op (ew_var rfl (ew_int ⟨_, opv_ixT rfl rfl, aw_cons (ew_op (ew_var rfl (ew_int ⟨_, opv_ixT rfl rfl, aw_nil ⟨X.2, X.1, rfl, hx1, sm_mono hxs.2 (by decide), sm_mono hxs.1 (by decide), ?_⟩⟩)))⟩))))))
      have hsw := red_swap hx1 hx.co
      have hy := red_sh (a := X.2) (b := X.1) hx1
      have hys := red_sm (a := X.2) (b := X.1) (n := 3) hx1 hxs.2 hxs.1
      obtain ⟨Y, hY⟩ : ∃ Y, red X.2 X.1 = Y := ⟨_, rfl⟩
      rw [hY] at hsw hy hys ⊢
      have hy2 := hy.pos
      refine sw_seq (sw_asg (ew_callP rfl trivial (aw_cons (ew_op (ew_var rfl (ew_int ⟨_, opv_ixL rfl at1, aw_cons (ew_var rfl (aw_nil ⟨botF f, Y, rfl, sm_mono hys.1 (by decide), sm_mono hys.2 (by decide), by omega, big_mono bB (by decide), ?_⟩))⟩))))))
      refine sw_seq (sw_if (tw_test (ew_op (ew_op (ew_var rfl (ew_int ⟨_, opv_ixT rfl rfl, ew_int ⟨_, opv_eq, _, rfl, fun _ => sw_ret (ew_bl hc), fun hN => sw_next ?_⟩⟩))))))
      have hN : hT (botF f) Y.1 Y.2 ≠ 0 := of_decide_eq_false hN
      refine sw_seq (sw_asg (ew_callP rfl trivial (aw_cons (ew_op (ew_var rfl (ew_int ⟨_, opv_ixL rfl at0, aw_cons (ew_var rfl (aw_nil ⟨fracT f S, Y, rfl, sm_mono hys.1 (by decide), sm_mono hys.2 (by decide), by omega, big_mono bT (by decide), ?_⟩))⟩))))))
      have bN1 : (hT (fracT f S) Y.1 Y.2).natAbs < 2 ^ 400 := pow_up (hT_bdG hys.1 hys.2 bT) (by omega)
      have bN2 : (hT (botF f) Y.1 Y.2).natAbs < 2 ^ 400 := pow_up (hT_bdG hys.1 hys.2 bB) (by omega)
      have bM1 : (Y.2 ^ ((fracT f S).length - 1)).natAbs < 2 ^ 400 := pow_up (pw_bdG hys.2 _) (by omega)
      have bM2 : (Y.2 ^ ((botF f).length - 1)).natAbs < 2 ^ 400 := pow_up (pw_bdG hys.2 _) (by omega)
      have m1 : Y.2 ^ ((fracT f S).length - 1) ≠ 0 := Int.pow_ne_zero (by omega)
      have m2 : Y.2 ^ ((botF f).length - 1) ≠ 0 := Int.pow_ne_zero (by omega)
      refine sw_seq (sw_asg (ew_callP rfl trivial (aw_cons (ew_op (ew_int ?_)))))
      refine ew_op (ew_op (ew_var rfl (ew_int ⟨_, opv_ixT rfl rfl, ew_op (ew_var rfl (ew_int ⟨_, opv_ixT rfl rfl, _, opv_intC (mwG bN1 bM2 (by decide)), _, opv_int, ?_⟩))⟩)))
      refine aw_cons (ew_op (ew_op (ew_var rfl (ew_int ⟨_, opv_ixT rfl rfl, ew_op (ew_var rfl (ew_int ⟨_, opv_ixT rfl rfl, _, opv_intC (mwG bM1 bN2 (by decide)), ?_⟩))⟩))))
      refine aw_nil ⟨0 - hT (fracT f S) Y.1 Y.2 * Y.2 ^ ((botF f).length - 1), Y.2 ^ ((fracT f S).length - 1) * hT (botF f) Y.1 Y.2, rfl, Int.mul_ne_zero m1 hN, ?_, pow_up (mul_bd bM1 bN2) (by decide), ?_⟩
      · rw [Int.zero_sub, Int.natAbs_neg]
        exact pow_up (mul_bd bN1 bM2) (by decide)
      have isX : isShD (shD X) = true := by
        show (decide (0 < X.2) && decide (gi X.1 X.2 = 1)) = true
        rw [decide_eq_true hx.pos, decide_eq_true hx.co]
        rfl
      have isY : isShD (shD Y) = true := by
        show (decide (0 < Y.2) && decide (gi Y.1 Y.2 = 1)) = true
        rw [decide_eq_true hy.pos, decide_eq_true hy.co]
        rfl
      have v3 := val_cross (v := underL f S) (p := X) (by omega)
      have v4 := val_cross (v := botF (turnF f)) (p := X) (by omega)
      have w1 := val_cross (v := fracT f S) (p := Y) (by omega)
      have w2 := val_cross (v := botF f) (p := Y) (by omega)
      have s3 := val_sm (p := X) (by omega) bU hxs.1 hxs.2 (by omega)
      have s4 := val_sm (p := X) (by omega) bV hxs.1 hxs.2 (by omega)
      have t1 := val_sm (p := Y) (by omega) bT hys.1 hys.2 (by omega)
      have t2 := val_sm (p := Y) (by omega) bB hys.1 hys.2 (by omega)
      have v3p := v3.2.pos
      have v4p := v4.2.pos
      have w1p := w1.2.pos
      have w2p := w2.2.pos
      obtain ⟨q4, hq⟩ := frac_cross hr (p := X.1) (q := X.2) (a := Y.1) (b := Y.2) (by omega) hx1 (by rcases hsw with e | e <;> rw [e] <;> simp) v3.1 v4.1 (by omega) (by omega) hN
      obtain ⟨q2, hd⟩ := less_cross w1.1 w2.1 (by omega) (by omega) m1 m2 hN
      refine sw_seq (sw_if (tw_not (tw_B (ew_callP rfl trivial (aw_cons (ew_callP rfl trivial (aw_cons (ew_callP rfl trivial ?_))))))))
      refine aw_cons (ew_op (ew_var rfl (ew_int ⟨_, opv_ixT rfl rfl, aw_cons (ew_var rfl (aw_nil ⟨underL f S, shD X, X, rfl, .sh X, dt2_ints, by rw [isX, Bool.or_true], hx2, sm_mono hxs.1 (by decide), sm_mono hxs.2 (by decide), by omega, big_mono bU (by decide), ?_⟩))⟩)))
      refine aw_cons (ew_callP rfl trivial (aw_cons (ew_op (ew_var rfl (ew_int ⟨_, opv_ixT rfl rfl, aw_cons (ew_var rfl (aw_nil ⟨botF (turnF f), shD X, X, rfl, .sh X, dt2_ints, by rw [isX, Bool.or_true], hx2, sm_mono hxs.1 (by decide), sm_mono hxs.2 (by decide), by omega, big_mono bV (by decide), ?_⟩))⟩)))))
      refine aw_nil ⟨_, _, valS (underL f S) X, valS (botF (turnF f)) X, rfl, ⟨.sh _, v3p, sm44 s3⟩, ⟨.sh _, v4p, sm44 s4⟩, fun _ => ?_, fun h => absurd h q4⟩
      rw [hq]
      refine aw_cons (ew_var rfl (aw_nil (same_in sd_sh ⟨_, rfl, (fun z => by cases z), fun _ => sw_next ?_⟩)))
      refine sw_seq (sw_asg (ew_callP rfl trivial (aw_cons (ew_int (aw_cons (ew_var rfl (aw_nil ⟨_, _, (1, 1), X, rfl, ⟨.int 1, by decide, sm_1⟩, ⟨.sh _, hx2, sm44 ⟨sm_mono hxs.1 (by decide), sm_mono hxs.2 (by decide)⟩⟩, fun _ => ?_, fun h => absurd h hx1⟩)))))))
      rw [Int.one_mul, Int.one_mul, hY]
      refine sw_ret (ew_callP rfl trivial (aw_cons (ew_callP rfl trivial ?_)))
      refine aw_cons (ew_tup (aw_cons (ew_int (aw_cons (ew_int (aw_nil ⟨by show 2 ≤ 100000; decide, ?_⟩))))))
      refine aw_cons (ew_callP rfl trivial (aw_cons (ew_callP rfl trivial ?_)))
      refine aw_cons (ew_op (ew_var rfl (ew_int ⟨_, opv_ixT rfl rfl, aw_cons (ew_var rfl (aw_nil ⟨fracT f S, shD Y, Y, rfl, .sh Y, dt2_ints, by rw [isY, Bool.or_true], hy2, sm_mono hys.1 (by decide), sm_mono hys.2 (by decide), by omega, big_mono bT (by decide), ?_⟩))⟩)))
      refine aw_cons (ew_callW rfl trivial (aw_nil (aw_cons (ew_op (ew_var rfl (ew_int ⟨_, opv_ixT rfl rfl, aw_cons (ew_var rfl (aw_nil ⟨botF f, shD Y, Y, rfl, .sh Y, dt2_ints, by rw [isY, Bool.or_true], hy2, sm_mono hys.1 (by decide), sm_mono hys.2 (by decide), by omega, big_mono bB (by decide), ?_⟩))⟩))))))
      refine aw_nil ⟨_, _, valS (fracT f S) Y, valS (botF f) Y, rfl, ⟨.sh _, w1p, sm44 t1⟩, ⟨.sh _, w2p, sm44 t2⟩, fun _ => ?_, fun h => absurd h q2⟩
      have hz : (valS (fracT f S) Y).2 * (valS (botF f) Y).1 ≠ 0 := Int.mul_ne_zero (by omega) q2
      refine aw_nil ⟨_, _, (0, 1), red ((valS (fracT f S) Y).1 * (valS (botF f) Y).2) ((valS (fracT f S) Y).2 * (valS (botF f) Y).1), rfl, ⟨.sh (0, 1), by decide, sm_one⟩, ⟨.sh _, (red_sh hz).pos, over_sm t1 t2 hz⟩, ?_⟩
      rw [hd]
      exact aw_cons (ew_var rfl (aw_nil (same_in sd_sh hc)))
end Pf

namespace Pf
open PySem L2 Dl Sh
open Evl (Ex)
open Ry
local macro_rules | `(tactic| walk_at "r0") => `(tactic| with_reducible first
  | refine sw_seq ?_
  | refine ew_var rfl ?_
  | refine ew_int ?_
  | refine ew_bl ?_
  | refine ew_non ?_
  | refine ew_str ?_
  | refine aw_cons ?_
  | refine aw_nil ?_
  | refine sw_par ?_
  | refine sw_next ?_
  | refine sw_if ?_
  | refine sw_ret ?_
  | refine tw_not ?_
  | refine tw_and ?_
  | refine tw_or ?_
  | refine tw_test ?_
  | refine tw_B ?_
  | refine tw_tru rfl ?_
  | refine ew_andV ?_
  | refine ew_orV ?_
  | refine ew_notV ?_
  | refine ew_if ?_
  | refine ew_chain ?_
  | refine ew_isN ?_
  | refine ew_tup ?_
  | refine ew_lst ?_
  | refine ew_isiD isN_int rfl ?_
  | refine ew_isiD isN_bool rfl ?_
  | refine ew_isiD isN_tuple rfl ?_
  | refine ew_isiD isN_list rfl ?_
  | refine ew_isiD isN_str rfl ?_
  | refine ew_isi2D isN_list isN_tuple rfl ?_
  | refine ew_isi2D isN_tuple isN_list rfl ?_
  | refine ew_cb ?_
  | refine ew_neg ?_
  | refine ew_op ?_
  | refine ⟨_, opv_int, ?_⟩
  | refine ⟨_, opv_cmp, ?_⟩
  | refine ⟨_, opv_eq, ?_⟩
  | refine ⟨_, opv_ne, ?_⟩
  | refine ⟨_, opv_eqB, ?_⟩
  | refine ⟨_, opv_eqS, ?_⟩
  | refine ⟨_, cbv_abs, ?_⟩
  | refine ⟨_, cbv_max2, ?_⟩
  | refine ⟨_, cbv_min2, ?_⟩
  | refine pw_none ?_
  | refine pw_some ?_
  | refine ⟨_, cbv_int, ?_⟩
  | refine ⟨_, rfl, ?_⟩
  | refine ⟨_, _, rfl, ?_⟩
  | refine ⟨_, _, _, rfl, ?_⟩
  | refine ⟨_, _, _, _, rfl, ?_⟩
  | refine br_t ?_
  | refine br_f ?_
  | refine ⟨dt_int, ?_⟩
  | refine ⟨dt_bl, ?_⟩
  | refine ⟨dt_str, ?_⟩
  | refine ⟨dt_non, ?_⟩
  | refine ⟨dt_tup, ?_⟩
  | refine ⟨dt_lst, ?_⟩
  | refine sw_asg ?_
  | refine sw_drop ?_)
local macro_rules | `(tactic| walk_at "r1") => `(tactic| first
  | ((with_reducible refine ew_tupL ?hK ?_); (case hK => rfl))
  | ((with_reducible refine ew_catT ?hK ?_); (case hK => rfl))
  | ((with_reducible refine ew_repT ?hK ?_); (case hK => rfl))
  | ((with_reducible refine ew_of_eb (eb_listL ?hK ?_)); (case hK => rfl))
  | ((with_reducible refine ew_of_eb (eb_cutL ?hK ?_)); (case hK => rfl))
  | walk_at "r0"
  | ((with_reducible refine ew_of_eb (eb_mapT ?hV ?hK ?_)); (case hK => rfl); (case hV => rfl))
  | ((with_reducible refine ew_of_eb (eb_mapL ?hV ?hK ?_)); (case hK => rfl); (case hV => rfl))
  | ((with_reducible refine ew_of_eb (eb_mapR ?hV ?_)); (case hV => rfl))
  | ((with_reducible refine ew_callP ?hK trivial ?_); (case hK => rfl))
  | ((with_reducible refine ew_callW ?hK trivial ?_); (case hK => rfl))
  | ((with_reducible refine ew_callH ?hK trivial ?_); (case hK => rfl))
  | ((with_reducible refine ew_callR ?hK ?hF ?_); (case hK => rfl); (case hF => assumption))
  | ((with_reducible refine len_ok ?hK ?_); (case hK => rfl))
  | ((with_reducible refine ew_notT ?hK ?_); (case hK => rfl))
  | ((with_reducible refine ew_cutT ?hK ?_); (case hK => rfl))
  | ((with_reducible refine ⟨(?hK : Dt _ _), ?_⟩); (case hK => assumption))
  | ((with_reducible refine sw_unp2 ?hK ?hn ?_); (case hK => rfl); (case hn => rfl)))
local macro_rules | `(tactic| walk_at "side") => `(tactic| first
  | exact Or.inr (by decide)
  | exact Or.inl (by decide)
  | exact ⟨by decide, by decide⟩
  | exact ⟨by decide, by decide, by decide⟩
  | decide
  | (dsimp only; decide)
  | exact mw (by assumption) (by assumption))
local macro_rules | `(tactic| walk_at "r2") => `(tactic| first
  | walk_at "r1"
  | ((with_reducible refine ⟨_, opv_intC ?hC, ?_⟩); (case hC => walk_at "side"))
  | ((with_reducible refine ⟨_, cbv_lenL ?hK, ?_⟩); (case hK => rfl))
  | ((with_reducible refine ⟨_, cbv_allM ?hK, ?_⟩); (case hK => rfl))
  | ((with_reducible refine ⟨_, cbv_anyM ?hK, ?_⟩); (case hK => rfl))
  | ((with_reducible refine ⟨_, cbv_sumM ?hK, ?_⟩); (case hK => rfl))
  | ((with_reducible refine ⟨_, cbv_lenT ?hK, ?_⟩); (case hK => rfl))
  | (with_reducible refine ⟨_, opv_ixT (by with_unfolding_all rfl) (by with_unfolding_all rfl), ?_⟩)
  | refine br_t ?_
  | refine br_f ?_)
local macro_rules | `(tactic| walk_at "rd") => `(tactic| repeat (walk_at "r2"))
local macro_rules | `(tactic| walk_at "rs") => `(tactic| repeat ((fail_if_success (with_reducible refine sw_isif ?_)); walk_at "r2"))
local macro_rules | `(tactic| walk_at "nf") => `(tactic| (try simp only [List.set_cons_zero, List.set_cons_succ, Dl.sets, Dl.asD]))
local macro_rules | `(tactic| walk_at "ru") => `(tactic| repeat ((fail_if_success (with_reducible refine sw_seq ?_)); walk_at "r2"))

def IsNo (R : Rsc) : Prop := R = Rsc.no
def badsL : List D := [.bl true, .bl false, .non, .str "0", .tup [.int 1, .int 1], .tup [.int 0]]
theorem bad_in {K : PySem.W.Frag} {y : D} (h : y ∈ badsL) : Dt K y ∧ isIntD y = false ∧ SD 4 y := by
  unfold badsL at h
  simp only [List.mem_cons, List.not_mem_nil, or_false] at h
  rcases h with rfl | rfl | rfl | rfl | rfl | rfl
  · exact ⟨dt_bl, rfl, .bl _ _⟩
  · exact ⟨dt_bl, rfl, .bl _ _⟩
  · exact ⟨dt_non, rfl, .non _⟩
  · exact ⟨dt_str, rfl, .str _ _⟩
  · exact ⟨dt_tup, rfl, .tup 3 _ (fun d hd => by
      simp only [List.mem_cons, List.not_mem_nil, or_false] at hd
      rcases hd with rfl | rfl <;> exact .int _ _) (by show 2 ≤ 100000; decide)⟩
  · exact ⟨dt_tup, rfl, .tup 3 _ (fun d hd => by
      simp only [List.mem_cons, List.not_mem_nil, or_false] at hd
      subst hd
      exact .int _ _) (by show 1 ≤ 100000; decide)⟩
abbrev c__law_all (A : Ad) : Cn := fun K w ds Ψ Ξ => ∃ ns : List Int, ds = [.lst (ns.map D.int)] ∧ ns.length ≤ 63 ∧ Ψ (.fz (.bl true))
theorem l__law_all (A : Ad) : ∀ K w ds Ψ Ξ, (c__law_all A) K w ds Ψ Ξ → ds.length = 1 := fun K w ds Ψ Ξ h => by
  obtain ⟨_, rfl, _⟩ := h
  rfl
theorem ok__law_all {P : Program} {w : World} {K : PySem.W.Frag} {mg : Str → Option Value} {base : Heap} {A : Ad} (T : Txt K mg A) : FnOk P w K mg base CX0 12 A._law_all A.fd__law_all ["script"] (SpD K IsNo (c__law_all A)) := by
  refine Fun.ok T.F__law_all sc__law_all (fun vs H Q E h => spd_len (l__law_all A) h) (fun cdv A' outer s H vs Q E hr h => ⟨_, (pss_cons (ps_set (i := 1) sc__law_all.nd rfl (.inl rfl) (pe_call (ok__law_open T) (hr.mono (by decide)) (by rfl) T.m__law_open T.F__law_open.kp (b__law_open T) .nil pass0 (pa_cons (pv 0) pa_nil)))
        (pss_cons (ps_set (i := 2) sc__law_all.nd rfl (.inl rfl) (pe_call (ok__law_row T) (hr.mono (by decide)) (by rfl) T.m__law_row T.F__law_row.kp (b__law_row T) .nil pass0 (pa_cons (pv 1) pa_nil)))
        (pss_cons (ps_set (i := 3) sc__law_all.nd rfl (.inl rfl) (pe_call (ok__law_row T) (hr.mono (by decide)) (by rfl) T.m__law_row T.F__law_row.kp (b__law_row T) .nil pass0 (pa_cons (pv 1) pa_nil)))
        (pss_cons (ps_set (i := 4) sc__law_all.nd rfl (.inl rfl) pe_int)
        (pss_cons (ps_if (pt_cmpR op_eq (pe_call (ok__law_draw T) (hr.mono (by decide)) (by rfl) T.m__law_draw T.F__law_draw.kp (b__law_draw T) .nil pass0 (pa_cons (pv 1) (pa_cons pe_int pa_nil))) pe_int (nomark _)) (pss_one (ps_set (i := 4) sc__law_all.nd rfl (.inl rfl) pe_int)) pss_nil)
        (pss_cons (ps_set (i := 5) sc__law_all.nd rfl (.inl rfl) (pe_call (ok__law_window T) (hr.mono (by decide)) (by rfl) T.m__law_window T.F__law_window.kp (b__law_window T) .nil pass0 (pa_cons (pv 2) (pa_cons (pv 4) pa_nil))))
        (pss_cons (ps_set (i := 6) sc__law_all.nd rfl (.inl rfl) (pe_call (ok__law_window T) (hr.mono (by decide)) (by rfl) T.m__law_window T.F__law_window.kp (b__law_window T) .nil pass0 (pa_cons (pv 3) (pa_cons pe_int pa_nil))))
        (pss_cons (ps_set (i := 7) sc__law_all.nd rfl (.inl rfl) (pe_call (ok__law_made T) (hr.mono (by decide)) (by rfl) T.m__law_made T.F__law_made.kp (b__law_made T) .nil pass0 (pa_cons (pv 1) (pa_cons (pv 2) pa_nil))))
        (pss_cons (ps_set (i := 8) sc__law_all.nd rfl (.inl rfl) (pe_call (ok__law_made T) (hr.mono (by decide)) (by rfl) T.m__law_made T.F__law_made.kp (b__law_made T) .nil pass0 (pa_cons (pv 1) (pa_cons (pv 3) pa_nil))))
        (pss_cons (ps_if (PW.pt (pw_or (pt_not (pt_val (pe_call (ok__law_is T) (hr.mono (by decide)) (by rfl) T.m__law_is T.F__law_is.kp (b__law_is T) .nil pass0 (pa_cons (pv 7) (pa_cons (pv 2) pa_nil))))) (pw_or1 (pt_not (pt_val (pe_call (ok__law_terms_right T) (hr.mono (by decide)) (by rfl) T.m__law_terms_right T.F__law_terms_right.kp (b__law_terms_right T) .nil pass0 (pa_cons (pv 1) (pa_cons (pv 2) (pa_cons (pv 7) (pa_cons (pv 5) (pa_cons (pv 4) pa_nil))))))))))) (pss_one (ps_ret pe_bl)) pss_nil)
        (pss_cons (ps_if (pt_not (pt_val (pe_call (ok__law_terms_right T) (hr.mono (by decide)) (by rfl) T.m__law_terms_right T.F__law_terms_right.kp (b__law_terms_right T) .nil pass0 (pa_cons (pv 1) (pa_cons (pv 3) (pa_cons (pv 8) (pa_cons (pv 6) (pa_cons pe_int pa_nil)))))))) (pss_one (ps_ret pe_bl)) pss_nil)
        (pss_cons (ps_if (PW.pt (pw_or (pt_not (pt_val (pe_call (ok__law_row_refused T) (hr.mono (by decide)) (by rfl) T.m__law_row_refused T.F__law_row_refused.kp (b__law_row_refused T) .nil pass0 (pa_cons (pe_call (ok__law_wrong_row T) (hr.mono (by decide)) (by rfl) T.m__law_wrong_row T.F__law_wrong_row.kp (b__law_wrong_row T) .nil pass0 (pa_cons (pv 1) (pa_cons (pv 2) pa_nil))) pa_nil)))) (pw_or1 (pt_not (pt_val (pe_call (ok__law_row_refused T) (hr.mono (by decide)) (by rfl) T.m__law_row_refused T.F__law_row_refused.kp (b__law_row_refused T) .nil pass0 (pa_cons (pe_call (ok__law_wrong_row T) (hr.mono (by decide)) (by rfl) T.m__law_wrong_row T.F__law_wrong_row.kp (b__law_wrong_row T) .nil pass0 (pa_cons (pv 1) (pa_cons (pv 3) pa_nil))) pa_nil))))))) (pss_one (ps_ret pe_bl)) pss_nil)
        (pss_cons (ps_set (i := 9) sc__law_all.nd rfl (.inl rfl) (pe_call (ok__law_pick T) (hr.mono (by decide)) (by rfl) T.m__law_pick T.F__law_pick.kp (b__law_pick T) .nil pass0 (pa_cons (pv 1) (pa_cons (pe_lst (pa_cons pe_bl (pa_cons pe_bl (pa_cons pe_non (pa_cons pe_str (pa_cons (pe_tup (pa_cons pe_int (pa_cons pe_int pa_nil))) (pa_cons (pe_tup (pa_cons pe_int pa_nil)) pa_nil))))))) pa_nil))))
        (pss_cons (ps_if (PW.pt (pw_or (pt_not (pt_val (pe_call (ok__law_number_refused T) (hr.mono (by decide)) (by rfl) T.m__law_number_refused T.F__law_number_refused.kp (b__law_number_refused T) .nil pass0 (pa_cons (pv 7) (pa_cons (pv 9) (pa_cons pe_int pa_nil)))))) (pw_or1 (pt_not (pt_val (pe_call (ok__law_number_refused T) (hr.mono (by decide)) (by rfl) T.m__law_number_refused T.F__law_number_refused.kp (b__law_number_refused T) .nil pass0 (pa_cons (pv 8) (pa_cons (pv 9) (pa_cons pe_int pa_nil))))))))) (pss_one (ps_ret pe_bl)) pss_nil)
        (pss_cons (ps_if (pt_not (pt_val (pe_call (ok__law_fractions_right T) (hr.mono (by decide)) (by rfl) T.m__law_fractions_right T.F__law_fractions_right.kp (b__law_fractions_right T) .nil pass0 (pa_cons (pv 1) (pa_cons (pv 2) (pa_cons (pv 7) (pa_cons (pv 5) (pa_cons (pv 4) pa_nil)))))))) (pss_one (ps_ret pe_bl)) pss_nil)
        (pss_cons (ps_if (pt_not (pt_val (pe_call (ok__law_fractions_right T) (hr.mono (by decide)) (by rfl) T.m__law_fractions_right T.F__law_fractions_right.kp (b__law_fractions_right T) .nil pass0 (pa_cons (pv 1) (pa_cons (pv 3) (pa_cons (pv 8) (pa_cons (pv 6) (pa_cons pe_int pa_nil)))))))) (pss_one (ps_ret pe_bl)) pss_nil)
        (pss_one (ps_ret (pe_and (pe_call (ok__law_same T) (hr.mono (by decide)) (by rfl) T.m__law_same T.F__law_same.kp (b__law_same T) .nil pass0 (pa_cons (pe_meth (pv 7) T.cl_Row T.me_Row__term (ok_Row__term T) (hr.mono (by decide)) (b_Row__term T) .nil passLN (pa_cons (pe_un un_neg pe_int) pa_nil)) (pa_cons (pe_ix ix_list (pv 5) (pe_op op_sub (pv 4) pe_int) (fun _ _ => rfl)) pa_nil))) (pe_one (pe_call (ok__law_same T) (hr.mono (by decide)) (by rfl) T.m__law_same T.F__law_same.kp (b__law_same T) .nil pass0 (pa_cons (pe_meth (pv 8) T.cl_Row T.me_Row__term (ok_Row__term T) (hr.mono (by decide)) (b_Row__term T) .nil passLN (pa_cons (pe_un un_neg pe_int) pa_nil)) (pa_cons (pe_ix ix_list (pv 6) pe_int (fun _ _ => rfl)) pa_nil))))))))))))))))))))))), ?_⟩)
  refine body_ok 1 (by decide) (l__law_all A) h (fun Γ ds Ψ Ξ hK hX hF hc ke => ?_)
  subst hK
  obtain ⟨ns, rfl, hns, hc⟩ := hc
  have hN : Γ.R = Rsc.no := hF
  refine sw_src rfl hN hX (ew_var rfl ⟨ns, rfl, hns, fun R hR => ?_⟩)
  refine sw_seq (sw_asg (ew_callR rfl hR (aw_cons (ew_var rfl (aw_nil ⟨rfl, fun f S hd => ?_⟩)))))
  refine sw_seq (sw_asg (ew_callR rfl hR (aw_cons (ew_var rfl (aw_nil ⟨rfl, fun g U he => ?_⟩)))))
  have hL := drawn_row hd
  have hM := drawn_row he
  have hl5 := hL.l5
  have hm5 := hM.l5
  have hl1 := hd.l1
  have hm1 := he.l1
  have hl0 := hd.l0
  have hm0 := he.l0
  have hll := hL.r.l
  have hml := hM.r.l
  refine sw_seq (sw_asg (ew_int ?_))
  refine sw_cut (fun ρ => ∃ n : Nat, 20 ≤ n ∧ n ≤ 40 ∧ ρ = [some (.fz (.lst (ns.map D.int))), some (.fz (.ptr R.w)), some (.fz (rwD f S)), some (.fz (rwD g U)), some (.fz (.int n)), none, none, none, none, none]) ?_ ?_
  · refine sw_if (tw_test (ew_op (ew_callR rfl hR (aw_cons (ew_var rfl (aw_cons (ew_int (aw_nil ⟨_, rfl, by decide, by decide, fun d d0 d1 => ew_int ⟨_, opv_eq, _, rfl, fun h => ?_, fun h => ?_⟩⟩))))))))
    · exact sw_asg (ew_int ⟨40, by omega, by omega, rfl⟩)
    · exact sw_next ⟨20, by omega, by omega, rfl⟩
  rintro ρ ⟨n, n0, n1, rfl⟩
  have hwl : (winL f S n).length = 2 * n + 1 := win_len
  have hwm : (winL g U 20).length = 2 * 20 + 1 := win_len
  refine sw_seq (sw_asg (ew_callP rfl trivial (aw_cons (ew_var rfl (aw_cons (ew_var rfl (aw_nil ⟨f, S, n, rfl, hL.r, by omega, ?_⟩)))))))
  refine sw_seq (sw_asg (ew_callP rfl trivial (aw_cons (ew_var rfl (aw_cons (ew_int (aw_nil ⟨g, U, 20, rfl, hM.r, by decide, ?_⟩)))))))
  refine sw_seq (sw_asg (ew_callR rfl hR (aw_cons (ew_var rfl (aw_cons (ew_var rfl (aw_nil ⟨f, S, rfl, hL.r, ?_⟩)))))))
  refine sw_seq (sw_asg (ew_callR rfl hR (aw_cons (ew_var rfl (aw_cons (ew_var rfl (aw_nil ⟨g, U, rfl, hM.r, ?_⟩)))))))
  refine sw_seq (sw_if (tw_or (tw_not (tw_B (ew_callP rfl trivial (aw_cons (ew_var rfl (aw_cons (ew_var rfl (aw_nil ⟨f, S, rfl, by omega, by omega, _, rfl, (fun z => by cases z), fun _ => ?_⟩))))))))))
  refine tw_not (tw_B (ew_callR rfl hR (aw_cons (ew_var rfl (aw_cons (ew_var rfl (aw_cons (ew_var rfl (aw_cons (ew_var rfl (aw_cons (ew_var rfl (aw_nil ⟨f, S, n, rfl, hL, n0, n1, _, rfl, (fun z => by cases z), fun _ => sw_next ?_⟩)))))))))))))
  refine sw_seq (sw_if (tw_not (tw_B (ew_callR rfl hR (aw_cons (ew_var rfl (aw_cons (ew_var rfl (aw_cons (ew_var rfl (aw_cons (ew_var rfl (aw_cons (ew_int (aw_nil ⟨g, U, 20, rfl, hM, by decide, by decide, _, rfl, (fun z => by cases z), fun _ => sw_next ?_⟩)))))))))))))))
  refine sw_seq (sw_if (tw_or (tw_not (tw_B (ew_callP rfl trivial (aw_cons (ew_callR rfl hR (aw_cons (ew_var rfl (aw_cons (ew_var rfl (aw_nil ⟨f, S, rfl, hl0, by omega, hll, fun d e hb => aw_nil ⟨d, e, rfl, hb, _, rfl, (fun z => by cases z), fun _ => ?_⟩⟩))))))))))))
  refine tw_not (tw_B (ew_callP rfl trivial (aw_cons (ew_callR rfl hR (aw_cons (ew_var rfl (aw_cons (ew_var rfl (aw_nil ⟨g, U, rfl, hm0, by omega, hml, fun d e hb => aw_nil ⟨d, e, rfl, hb, _, rfl, (fun z => by cases z), fun _ => sw_next ?_⟩⟩)))))))))
  refine sw_seq (sw_asg (ew_callR rfl hR (aw_cons (ew_var rfl (aw_cons (ew_lst ?_))))))
  refine aw_cons (ew_bl (aw_cons (ew_bl (aw_cons (ew_non (aw_cons (ew_str (aw_cons (ew_tup (aw_cons (ew_int (aw_cons (ew_int (aw_nil ⟨by show 2 ≤ 100000; decide, ?_⟩))))))))))))))
  refine aw_cons (ew_tup (aw_cons (ew_int (aw_nil ⟨by show 1 ≤ 100000; decide, ?_⟩))))
  refine aw_nil ⟨by show 6 ≤ 100000; decide, aw_nil ⟨badsL, rfl, by decide, by decide, fun y hy => ?_⟩⟩
  obtain ⟨y1, y2, y3⟩ := bad_in (K := Γ.K) hy
  refine sw_seq (sw_if (tw_or (tw_not (tw_B (ew_callP rfl trivial (aw_cons (ew_var rfl (aw_cons (ew_var rfl (aw_cons (ew_int (aw_nil ⟨f, S, y, 0, rfl, hL.r, y1, y2, y3, _, rfl, (fun z => by cases z), fun _ => ?_⟩))))))))))))
  refine tw_not (tw_B (ew_callP rfl trivial (aw_cons (ew_var rfl (aw_cons (ew_var rfl (aw_cons (ew_int (aw_nil ⟨g, U, y, 1, rfl, hM.r, y1, y2, y3, _, rfl, (fun z => by cases z), fun _ => sw_next ?_⟩)))))))))
  refine sw_seq (sw_if (tw_not (tw_B (ew_callR rfl hR (aw_cons (ew_var rfl (aw_cons (ew_var rfl (aw_cons (ew_var rfl (aw_cons (ew_var rfl (aw_cons (ew_var rfl (aw_nil ⟨f, S, n, rfl, hL, n0, n1, _, rfl, (fun z => by cases z), fun _ => sw_next ?_⟩)))))))))))))))
  refine sw_seq (sw_if (tw_not (tw_B (ew_callR rfl hR (aw_cons (ew_var rfl (aw_cons (ew_var rfl (aw_cons (ew_var rfl (aw_cons (ew_var rfl (aw_cons (ew_int (aw_nil ⟨g, U, 20, rfl, hM, by decide, by decide, _, rfl, (fun z => by cases z), fun _ => sw_next ?_⟩)))))))))))))))
  refine sw_ret (ew_andV (ew_callP rfl trivial (aw_cons (ew_meth rfl trivial (ew_var rfl ⟨_, rfl, rfl, aw_cons (ew_neg (ew_int ⟨_, rfl, aw_nil ⟨f, S, _, rfl, dt_int, hL.r, fun i e => ?_, (fun z => by cases z)⟩⟩))⟩)))))
  obtain rfl := D.int.inj e
  refine ⟨by decide, ?_⟩
  refine aw_cons (ew_op (ew_var rfl (ew_op (ew_var rfl (ew_int ⟨_, opv_int, _, opv_ixIL rfl (by omega) (by omega), ?_⟩)))))
  have e1 := win_get (f := f) (S := S) (n := n) (k := -3) (by omega) (by omega)
  rw [← Int.sub_eq_add_neg] at e1
  rw [e1]
  refine aw_nil (same_in (.int _ _) ⟨_, rfl, fun _ => ?_, (fun z => by cases z)⟩)
  refine ew_callP rfl trivial (aw_cons (ew_meth rfl trivial (ew_var rfl ⟨_, rfl, rfl, aw_cons (ew_neg (ew_int ⟨_, rfl, aw_nil ⟨g, U, _, rfl, dt_int, hM.r, fun i e => ?_, (fun z => by cases z)⟩⟩))⟩)))
  obtain rfl := D.int.inj e
  refine ⟨by decide, ?_⟩
  have e2 := win_get (f := g) (S := U) (n := 20) (k := -4) (by decide) (by decide)
  rw [show (((20 : Nat) : Int) + -4) = 16 from rfl] at e2
  refine aw_cons (ew_op (ew_var rfl (ew_int ⟨_, opv_ixIL rfl (by decide) (by omega), ?_⟩)))
  rw [e2]
  exact aw_nil (same_in (.int _ _) hc)
abbrev c_law : Cn := fun K w ds Ψ Ξ => ∃ ns : List Int, ds = [.lst (ns.map D.int)] ∧ ns.length ≤ 63 ∧ Ψ (.fz (.bl true))
theorem l_law : ∀ K w ds Ψ Ξ, c_law K w ds Ψ Ξ → ds.length = 1 := fun K w ds Ψ Ξ h => by
  obtain ⟨_, rfl, _⟩ := h
  rfl
theorem ok_law {P : Program} {w : World} {K : PySem.W.Frag} {mg : Str → Option Value} {base : Heap} {A : Ad} (T : Txt K mg A) : FnOk P w K mg base CX0 13 A.law A.fd_law ["script"] (SpD K IsNo c_law) := by
  refine Fun.ok T.F_law sc_law (fun vs H Q E h => spd_len (l_law) h) (fun cdv A' outer s H vs Q E hr h => ⟨_, (pss_one (ps_try_thru0 (pss_one (ps_ret (pe_call (ok__law_all T) (hr.mono (by decide)) (by rfl) T.m__law_all T.F__law_all.kp (b__law_all T) .nil pass0 (pa_cons (pv 0) pa_nil)))))), ?_⟩)
  refine body_ok 1 (by decide) (l_law) h (fun Γ ds Ψ Ξ hK hX hF hc ke => ?_)
  subst hK
  obtain ⟨ns, rfl, hns, hc⟩ := hc
  exact sw_ret (ew_callP rfl rfl (aw_cons (ew_var rfl (aw_nil ⟨ns, rfl, hns, hc⟩))))
/-- what the law promises of every script -/
def spLaw (K : PySem.W.Frag) : Sp := fun vs H Q _ => ∃ (a : Addr) (ns : List Int), vs = [.ref a] ∧ SqL K H a (ns.map V.int) ∧ ns.length ≤ 63 ∧ ∀ H', Q (.bl true) H'
theorem splaw_data {K : PySem.W.Frag} {vs : List V} {H : Hp} {Q : VK} {E : XK} (h : spLaw K vs H Q E) : SpD K IsNo c_law vs H Q E := by
  obtain ⟨a, ns, rfl, hS, hl, hq⟩ := h
  refine ⟨Rsc.no, H, [.lst (ns.map D.int)], fun b => b = .fz (.bl true), NoX, rfl, trivial, fun _ z => z.elim, Ex.refl H, .cons (.lst hS (RepL.ofInts ns)) .nil, ⟨ns, rfl, hl, rfl⟩, fun b v G' H' _ hb e => ?_, fun _ _ _ _ _ _ _ _ _ _ _ z => z.elim⟩
  subst e
  cases hb
  exact hq H'
theorem ok_law_all {P : Program} {w : World} {K : PySem.W.Frag} {mg : Str → Option Value} {base : Heap} {A : Ad} {k : Nat} (F : FnOk P w K mg base CX0 k A.law A.fd_law ["script"] (SpD K IsNo c_law)) : FnOk P w K mg base CX0 k A.law A.fd_law ["script"] (spLaw K) :=
  ⟨fun vs H Q E h => F.len vs H Q E (splaw_data h), fun A' outer s H args us vs Q E h1 h2 h3 h4 h5 => F.run A' outer s H args us vs Q E h1 h2 h3 h4 (splaw_data h5)⟩
end Pf

namespace Pf
open PySem L2 Dl Sh
open Evl (Ex)
theorem walk {l : PySem.W.OpenLaw} {q : Program} {loose : List Str} {XP : (Str → Option Value) → Heap → Prop} {YP : World → Heap → Prop} {d : DefRec} {K : Params → PySem.W.Frag} (hn : l.most = some 63) (hdf : d.params.defaults = [])
    (hY : ∀ (w : World) (h : Heap), YP w h → (K w.params).In h) (hd : d.name = "law")
    (F : ∀ (w : World) (mg : Str → Option Value) (fa : Addr) (h : Heap), (K w.params).In h → h.Ns mainGlobals mg → mg "law" = some (.ref fa) → ∃ A : Ad, A.law = fa ∧ Txt (K w.params) mg A) :
    PySem.W.WalkO q loose XP YP l.row.toRowW d [] (fun f vs => PySem.call f vs) := by
  refine L2.walk_of (n := 63) (k := 13) (x := "script") (CX := fun _ => CX0) (sp := fun w => spLaw (K w.params)) hn (by decide) hdf ⟨rfl, by decide, by decide⟩ hY ?_ (fun _ _ a ns hl _ hS => ⟨a, ns, rfl, hS, hl, fun _ => rfl⟩) fun _ _ _ _ _ z => z
  intro w mg fa h X G hmg
  obtain ⟨A, e, T⟩ := F w mg fa h X G (by rw [← hd]; exact hmg)
  subst e
  refine ⟨A.fd_law, ?_, fun base _ _ => ok_law_all (ok_law T)⟩
  obtain ⟨_, _, _, _, _, _, _, _, _, e, _, _⟩ := T.F_law.ex
  intro s v
  rw [e]
  exact .of_eq rfl
end Pf
open PySem PySem.W PyProof.Rows
set_option maxRecDepth 100000 in
set_option maxHeartbeats 0 in
theorem PySem.Challenge.cw_mirrorcounts_k80_whole_rows_back_and_for_holds : PySem.Challenge.rw_mirrorcounts_k80_whole_rows_back_and_for.Holds := by
  w_on; o_law; k_head; (case hw => w_witness2)
  k_fill
  refine Pf.walk (l := PySem.Challenge.rw_mirrorcounts_k80_whole_rows_back_and_for) rfl rfl (fun w h Y => PySem.W.kIn_of Y) rfl ?F
  case F =>
    intro w mg fa h KX G hmg
    refine' Pf.all_mk KX G hmg ?aC0 ?aC1 ?aC2 ?aC3 ?aC4 ?aC5 ?aC6 ?a1 ?l1 ?c1 ?k1 ?a2 ?l2 ?c2 ?k2 ?a3 ?l3 ?c3 ?k3 ?a4 ?l4 ?c4 ?k4 ?a5 ?l5 ?c5 ?k5 ?a6 ?t6 ?l6 ?c6 ?k6 ?a7 ?t7 ?l7 ?c7 ?k7 ?a8 ?t8 ?l8 ?c8 ?k8 ?a9 ?t9 ?l9 ?c9 ?k9 ?a10 ?t10 ?l10 ?c10 ?k10 ?a11 ?l11 ?c11 ?k11 ?a12 ?l12 ?c12 ?k12 ?a13 ?l13 ?c13 ?k13 ?a14 ?l14 ?c14 ?k14 ?a15 ?l15 ?c15 ?k15 ?a16 ?l16 ?c16 ?k16 ?a17 ?l17 ?c17 ?k17 ?a18 ?l18 ?c18 ?k18 ?a19 ?l19 ?c19 ?k19 ?a20 ?l20 ?c20 ?k20 ?a21 ?l21 ?c21 ?k21 ?a22 ?l22 ?c22 ?k22 ?a23 ?l23 ?c23 ?k23 ?a24 ?l24 ?c24 ?k24 ?a25 ?l25 ?c25 ?k25 ?a26 ?l26 ?c26 ?k26 ?a27 ?l27 ?c27 ?k27 ?a28 ?l28 ?c28 ?k28 ?a29 ?l29 ?c29 ?k29 ?a30 ?l30 ?c30 ?k30 ?a31 ?l31 ?c31 ?k31 ?a32 ?l32 ?c32 ?k32 ?a33 ?l33 ?c33 ?k33 ?a34 ?l34 ?c34 ?k34 ?a35 ?l35 ?c35 ?k35 ?a36 ?l36 ?c36 ?k36 ?a37 ?l37 ?c37 ?k37 ?a38 ?l38 ?c38 ?k38 ?a39 ?l39 ?c39 ?k39 ?a40 ?l40 ?c40 ?k40 ?a41 ?l41 ?c41 ?k41 ?a42 ?i42 ?l42 ?c42 ?k42 ?a43 ?i43 ?l43 ?c43 ?k43 ?a44 ?i44 ?l44 ?c44 ?k44 ?a45 ?i45 ?l45 ?c45 ?k45 ?a46 ?l46 ?c46 ?k46 ?a47 ?l47 ?c47 ?k47 ?a48 ?l48 ?c48 ?k48 ?a49 ?l49 ?c49 ?k49 ?a50 ?l50 ?c50 ?k50 ?a51 ?l51 ?c51 ?k51 ?a52 ?l52 ?c52 ?k52 ?a53 ?l53 ?c53 ?k53 ?a54 ?l54 ?c54 ?k54 ?a55 ?l55 ?c55 ?k55 ?a56 ?l56 ?c56 ?k56 ?a57 ?l57 ?c57 ?k57 ?a58 ?l58 ?c58 ?k58 ?a59 ?l59 ?c59 ?k59 ?a60 ?l60 ?c60 ?k60 ?a61 ?l61 ?c61 ?k61 ?a62 ?l62 ?c62 ?k62 ?a63 ?l63 ?c63 ?k63 ?a64 ?l64 ?c64 ?k64 ?a65 ?l65 ?c65 ?k65 ?a66 ?l66 ?c66 ?k66 ?a67 ?l67 ?c67 ?k67 ?a68 ?l68 ?c68 ?k68 ?a69 ?l69 ?c69 ?k69 ?a70 ?l70 ?c70 ?k70 ?a71 ?l71 ?c71 ?k71 ?xL0 ?sa0 ?ga0 ?gg0 ?kC0 ?eC0 ?tC0 ?hC0 ?sC0 ?xL1 ?sa1 ?ga1 ?gg1 ?kC1 ?eC1 ?tC1 ?hC1 ?sC1 ?sC1_0 ?kx1_InvalidRow ?kx1_InvalidShare ?kx1_InvalidNumber ?ha1 ?hn1 ?ht1 ?hm1 ?no1_value ?xL2 ?sa2 ?ga2 ?gg2 ?kC2 ?eC2 ?tC2 ?hC2 ?sC2 ?sC2_0 ?no2_value ?xL3 ?sa3 ?ga3 ?gg3 ?kC3 ?eC3 ?tC3 ?hC3 ?sC3 ?sC3_0 ?no3_value ?xL4 ?sa4 ?ga4 ?gg4 ?kC4 ?eC4 ?tC4 ?hC4 ?sC4 ?sC4_0 ?kx4_InvalidNumber ?kx4_InvalidShare ?kx4_InvalidValues ?kx4_InvalidRow ?ha4 ?hn4 ?ht4 ?hm4 ?no4_value ?xL5 ?sa5 ?ga5 ?gg5 ?kC5 ?eC5 ?tC5 ?hC5 ?sC5 ?sC5_0 ?no5_what ?pg6 ?hd6 ?po6 ?sb6 ?mk6 ?kc6 ?ha6 ?hn6 ?ht6 ?hm6 ?kt6_int ?kt6_bool ?kt6_tuple ?kt6_list ?kt6_str ?kx6_Row ?no6_factors ?no6_first ?aK0 ?lK0 ?nb_abs ?nb_len ?nb_range ?nb_int ?nb_str ?nb_isinstance ?nb_tuple ?nb_list ?nb_sum ?nb_min ?nb_max ?nb_all ?nb_enumerate ?nb_zip ?nb_reversed ?nb_bool ?nb_ValueError
    (case aC0 => first | k_is | rfl)
    (case aC1 => first | k_is | rfl)
    (case aC2 => first | k_is | rfl)
    (case aC3 => first | k_is | rfl)
    (case aC4 => first | k_is | rfl)
    (case aC5 => first | k_is | rfl)
    (case aC6 => first | k_is | rfl)
    (case a1 => first | k_is | rfl)
    (case l1 => first | k_is | rfl)
    (case c1 => first | k_is | rfl)
    (case k1 => first | k_is | rfl)
    (case a2 => first | k_is | rfl)
    (case l2 => first | k_is | rfl)
    (case c2 => first | k_is | rfl)
    (case k2 => first | k_is | rfl)
    (case a3 => first | k_is | rfl)
    (case l3 => first | k_is | rfl)
    (case c3 => first | k_is | rfl)
    (case k3 => first | k_is | rfl)
    (case a4 => first | k_is | rfl)
    (case l4 => first | k_is | rfl)
    (case c4 => first | k_is | rfl)
    (case k4 => first | k_is | rfl)
    (case a5 => first | k_is | rfl)
    (case l5 => first | k_is | rfl)
    (case c5 => first | k_is | rfl)
    (case k5 => first | k_is | rfl)
    (case a6 => first | k_is | rfl)
    (case t6 => first | k_is | rfl)
    (case l6 => first | k_is | rfl)
    (case c6 => first | k_is | rfl)
    (case k6 => first | k_is | rfl)
    (case a7 => first | k_is | rfl)
    (case t7 => first | k_is | rfl)
    (case l7 => first | k_is | rfl)
    (case c7 => first | k_is | rfl)
    (case k7 => first | k_is | rfl)
    (case a8 => first | k_is | rfl)
    (case t8 => first | k_is | rfl)
    (case l8 => first | k_is | rfl)
    (case c8 => first | k_is | rfl)
    (case k8 => first | k_is | rfl)
    (case a9 => first | k_is | rfl)
    (case t9 => first | k_is | rfl)
    (case l9 => first | k_is | rfl)
    (case c9 => first | k_is | rfl)
    (case k9 => first | k_is | rfl)
    (case a10 => first | k_is | rfl)
    (case t10 => first | k_is | rfl)
    (case l10 => first | k_is | rfl)
    (case c10 => first | k_is | rfl)
    (case k10 => first | k_is | rfl)
    (case a11 => first | k_is | rfl)
    (case l11 => first | k_is | rfl)
    (case c11 => first | k_is | rfl)
    (case k11 => first | k_is | rfl)
    (case a12 => first | k_is | rfl)
    (case l12 => first | k_is | rfl)
    (case c12 => first | k_is | rfl)
    (case k12 => first | k_is | rfl)
    (case a13 => first | k_is | rfl)
    (case l13 => first | k_is | rfl)
    (case c13 => first | k_is | rfl)
    (case k13 => first | k_is | rfl)
    (case a14 => first | k_is | rfl)
    (case l14 => first | k_is | rfl)
    (case c14 => first | k_is | rfl)
    (case k14 => first | k_is | rfl)
    (case a15 => first | k_is | rfl)
    (case l15 => first | k_is | rfl)
    (case c15 => first | k_is | rfl)
    (case k15 => first | k_is | rfl)
    (case a16 => first | k_is | rfl)
    (case l16 => first | k_is | rfl)
    (case c16 => first | k_is | rfl)
    (case k16 => first | k_is | rfl)
    (case a17 => first | k_is | rfl)
    (case l17 => first | k_is | rfl)
    (case c17 => first | k_is | rfl)
    (case k17 => first | k_is | rfl)
    (case a18 => first | k_is | rfl)
    (case l18 => first | k_is | rfl)
    (case c18 => first | k_is | rfl)
    (case k18 => first | k_is | rfl)
    (case a19 => first | k_is | rfl)
    (case l19 => first | k_is | rfl)
    (case c19 => first | k_is | rfl)
    (case k19 => first | k_is | rfl)
    (case a20 => first | k_is | rfl)
    (case l20 => first | k_is | rfl)
    (case c20 => first | k_is | rfl)
    (case k20 => first | k_is | rfl)
    (case a21 => first | k_is | rfl)
    (case l21 => first | k_is | rfl)
    (case c21 => first | k_is | rfl)
    (case k21 => first | k_is | rfl)
    (case a22 => first | k_is | rfl)
    (case l22 => first | k_is | rfl)
    (case c22 => first | k_is | rfl)
    (case k22 => first | k_is | rfl)
    (case a23 => first | k_is | rfl)
    (case l23 => first | k_is | rfl)
    (case c23 => first | k_is | rfl)
    (case k23 => first | k_is | rfl)
    (case a24 => first | k_is | rfl)
    (case l24 => first | k_is | rfl)
    (case c24 => first | k_is | rfl)
    (case k24 => first | k_is | rfl)
    (case a25 => first | k_is | rfl)
    (case l25 => first | k_is | rfl)
    (case c25 => first | k_is | rfl)
    (case k25 => first | k_is | rfl)
    (case a26 => first | k_is | rfl)
    (case l26 => first | k_is | rfl)
    (case c26 => first | k_is | rfl)
    (case k26 => first | k_is | rfl)
    (case a27 => first | k_is | rfl)
    (case l27 => first | k_is | rfl)
    (case c27 => first | k_is | rfl)
    (case k27 => first | k_is | rfl)
    (case a28 => first | k_is | rfl)
    (case l28 => first | k_is | rfl)
    (case c28 => first | k_is | rfl)
    (case k28 => first | k_is | rfl)
    (case a29 => first | k_is | rfl)
    (case l29 => first | k_is | rfl)
    (case c29 => first | k_is | rfl)
    (case k29 => first | k_is | rfl)
    (case a30 => first | k_is | rfl)
    (case l30 => first | k_is | rfl)
    (case c30 => first | k_is | rfl)
    (case k30 => first | k_is | rfl)
    (case a31 => first | k_is | rfl)
    (case l31 => first | k_is | rfl)
    (case c31 => first | k_is | rfl)
    (case k31 => first | k_is | rfl)
    (case a32 => first | k_is | rfl)
    (case l32 => first | k_is | rfl)
    (case c32 => first | k_is | rfl)
    (case k32 => first | k_is | rfl)
    (case a33 => first | k_is | rfl)
    (case l33 => first | k_is | rfl)
    (case c33 => first | k_is | rfl)
    (case k33 => first | k_is | rfl)
    (case a34 => first | k_is | rfl)
    (case l34 => first | k_is | rfl)
    (case c34 => first | k_is | rfl)
    (case k34 => first | k_is | rfl)
    (case a35 => first | k_is | rfl)
    (case l35 => first | k_is | rfl)
    (case c35 => first | k_is | rfl)
    (case k35 => first | k_is | rfl)
    (case a36 => first | k_is | rfl)
    (case l36 => first | k_is | rfl)
    (case c36 => first | k_is | rfl)
    (case k36 => first | k_is | rfl)
    (case a37 => first | k_is | rfl)
    (case l37 => first | k_is | rfl)
    (case c37 => first | k_is | rfl)
    (case k37 => first | k_is | rfl)
    (case a38 => first | k_is | rfl)
    (case l38 => first | k_is | rfl)
    (case c38 => first | k_is | rfl)
    (case k38 => first | k_is | rfl)
    (case a39 => first | k_is | rfl)
    (case l39 => first | k_is | rfl)
    (case c39 => first | k_is | rfl)
    (case k39 => first | k_is | rfl)
    (case a40 => first | k_is | rfl)
    (case l40 => first | k_is | rfl)
    (case c40 => first | k_is | rfl)
    (case k40 => first | k_is | rfl)
    (case a41 => first | k_is | rfl)
    (case l41 => first | k_is | rfl)
    (case c41 => first | k_is | rfl)
    (case k41 => first | k_is | rfl)
    (case a42 => first | k_is | rfl)
    (case i42 => first | k_is | rfl)
    (case l42 => first | k_is | rfl)
    (case c42 => first | k_is | rfl)
    (case k42 => first | k_is | rfl)
    (case a43 => first | k_is | rfl)
    (case i43 => first | k_is | rfl)
    (case l43 => first | k_is | rfl)
    (case c43 => first | k_is | rfl)
    (case k43 => first | k_is | rfl)
    (case a44 => first | k_is | rfl)
    (case i44 => first | k_is | rfl)
    (case l44 => first | k_is | rfl)
    (case c44 => first | k_is | rfl)
    (case k44 => first | k_is | rfl)
    (case a45 => first | k_is | rfl)
    (case i45 => first | k_is | rfl)
    (case l45 => first | k_is | rfl)
    (case c45 => first | k_is | rfl)
    (case k45 => first | k_is | rfl)
    (case a46 => first | k_is | rfl)
    (case l46 => first | k_is | rfl)
    (case c46 => first | k_is | rfl)
    (case k46 => first | k_is | rfl)
    (case a47 => first | k_is | rfl)
    (case l47 => first | k_is | rfl)
    (case c47 => first | k_is | rfl)
    (case k47 => first | k_is | rfl)
    (case a48 => first | k_is | rfl)
    (case l48 => first | k_is | rfl)
    (case c48 => first | k_is | rfl)
    (case k48 => first | k_is | rfl)
    (case a49 => first | k_is | rfl)
    (case l49 => first | k_is | rfl)
    (case c49 => first | k_is | rfl)
    (case k49 => first | k_is | rfl)
    (case a50 => first | k_is | rfl)
    (case l50 => first | k_is | rfl)
    (case c50 => first | k_is | rfl)
    (case k50 => first | k_is | rfl)
    (case a51 => first | k_is | rfl)
    (case l51 => first | k_is | rfl)
    (case c51 => first | k_is | rfl)
    (case k51 => first | k_is | rfl)
    (case a52 => first | k_is | rfl)
    (case l52 => first | k_is | rfl)
    (case c52 => first | k_is | rfl)
    (case k52 => first | k_is | rfl)
    (case a53 => first | k_is | rfl)
    (case l53 => first | k_is | rfl)
    (case c53 => first | k_is | rfl)
    (case k53 => first | k_is | rfl)
    (case a54 => first | k_is | rfl)
    (case l54 => first | k_is | rfl)
    (case c54 => first | k_is | rfl)
    (case k54 => first | k_is | rfl)
    (case a55 => first | k_is | rfl)
    (case l55 => first | k_is | rfl)
    (case c55 => first | k_is | rfl)
    (case k55 => first | k_is | rfl)
    (case a56 => first | k_is | rfl)
    (case l56 => first | k_is | rfl)
    (case c56 => first | k_is | rfl)
    (case k56 => first | k_is | rfl)
    (case a57 => first | k_is | rfl)
    (case l57 => first | k_is | rfl)
    (case c57 => first | k_is | rfl)
    (case k57 => first | k_is | rfl)
    (case a58 => first | k_is | rfl)
    (case l58 => first | k_is | rfl)
    (case c58 => first | k_is | rfl)
    (case k58 => first | k_is | rfl)
    (case a59 => first | k_is | rfl)
    (case l59 => first | k_is | rfl)
    (case c59 => first | k_is | rfl)
    (case k59 => first | k_is | rfl)
    (case a60 => first | k_is | rfl)
    (case l60 => first | k_is | rfl)
    (case c60 => first | k_is | rfl)
    (case k60 => first | k_is | rfl)
    (case a61 => first | k_is | rfl)
    (case l61 => first | k_is | rfl)
    (case c61 => first | k_is | rfl)
    (case k61 => first | k_is | rfl)
    (case a62 => first | k_is | rfl)
    (case l62 => first | k_is | rfl)
    (case c62 => first | k_is | rfl)
    (case k62 => first | k_is | rfl)
    (case a63 => first | k_is | rfl)
    (case l63 => first | k_is | rfl)
    (case c63 => first | k_is | rfl)
    (case k63 => first | k_is | rfl)
    (case a64 => first | k_is | rfl)
    (case l64 => first | k_is | rfl)
    (case c64 => first | k_is | rfl)
    (case k64 => first | k_is | rfl)
    (case a65 => first | k_is | rfl)
    (case l65 => first | k_is | rfl)
    (case c65 => first | k_is | rfl)
    (case k65 => first | k_is | rfl)
    (case a66 => first | k_is | rfl)
    (case l66 => first | k_is | rfl)
    (case c66 => first | k_is | rfl)
    (case k66 => first | k_is | rfl)
    (case a67 => first | k_is | rfl)
    (case l67 => first | k_is | rfl)
    (case c67 => first | k_is | rfl)
    (case k67 => first | k_is | rfl)
    (case a68 => first | k_is | rfl)
    (case l68 => first | k_is | rfl)
    (case c68 => first | k_is | rfl)
    (case k68 => first | k_is | rfl)
    (case a69 => first | k_is | rfl)
    (case l69 => first | k_is | rfl)
    (case c69 => first | k_is | rfl)
    (case k69 => first | k_is | rfl)
    (case a70 => first | k_is | rfl)
    (case l70 => first | k_is | rfl)
    (case c70 => first | k_is | rfl)
    (case k70 => first | k_is | rfl)
    (case a71 => first | k_is | rfl)
    (case l71 => first | k_is | rfl)
    (case c71 => first | k_is | rfl)
    (case k71 => first | k_is | rfl)
    (case xL0 => first | k_is | rfl)
    (case sa0 => first | k_is | rfl)
    (case ga0 => first | k_is | rfl)
    (case gg0 => first | k_is | rfl)
    (case kC0 => first | k_is | rfl)
    (case eC0 => first | k_is | rfl)
    (case tC0 => first | k_is | rfl)
    (case hC0 => first | k_is | rfl)
    (case sC0 => first | k_is | rfl)
    (case xL1 => first | k_is | rfl)
    (case sa1 => first | k_is | rfl)
    (case ga1 => first | k_is | rfl)
    (case gg1 => first | k_is | rfl)
    (case kC1 => first | k_is | rfl)
    (case eC1 => first | k_is | rfl)
    (case tC1 => first | k_is | rfl)
    (case hC1 => first | k_is | rfl)
    (case sC1 => first | k_is | rfl)
    (case sC1_0 => first | k_is | rfl)
    (case kx1_InvalidRow => first | k_is | rfl)
    (case kx1_InvalidShare => first | k_is | rfl)
    (case kx1_InvalidNumber => first | k_is | rfl)
    (case ha1 => first | k_is | rfl)
    (case hn1 => first | k_is | rfl)
    (case ht1 => first | k_is | rfl)
    (case hm1 => first | k_is | rfl)
    (case no1_value => first | k_is | rfl)
    (case xL2 => first | k_is | rfl)
    (case sa2 => first | k_is | rfl)
    (case ga2 => first | k_is | rfl)
    (case gg2 => first | k_is | rfl)
    (case kC2 => first | k_is | rfl)
    (case eC2 => first | k_is | rfl)
    (case tC2 => first | k_is | rfl)
    (case hC2 => first | k_is | rfl)
    (case sC2 => first | k_is | rfl)
    (case sC2_0 => first | k_is | rfl)
    (case no2_value => first | k_is | rfl)
    (case xL3 => first | k_is | rfl)
    (case sa3 => first | k_is | rfl)
    (case ga3 => first | k_is | rfl)
    (case gg3 => first | k_is | rfl)
    (case kC3 => first | k_is | rfl)
    (case eC3 => first | k_is | rfl)
    (case tC3 => first | k_is | rfl)
    (case hC3 => first | k_is | rfl)
    (case sC3 => first | k_is | rfl)
    (case sC3_0 => first | k_is | rfl)
    (case no3_value => first | k_is | rfl)
    (case xL4 => first | k_is | rfl)
    (case sa4 => first | k_is | rfl)
    (case ga4 => first | k_is | rfl)
    (case gg4 => first | k_is | rfl)
    (case kC4 => first | k_is | rfl)
    (case eC4 => first | k_is | rfl)
    (case tC4 => first | k_is | rfl)
    (case hC4 => first | k_is | rfl)
    (case sC4 => first | k_is | rfl)
    (case sC4_0 => first | k_is | rfl)
    (case kx4_InvalidNumber => first | k_is | rfl)
    (case kx4_InvalidShare => first | k_is | rfl)
    (case kx4_InvalidValues => first | k_is | rfl)
    (case kx4_InvalidRow => first | k_is | rfl)
    (case ha4 => first | k_is | rfl)
    (case hn4 => first | k_is | rfl)
    (case ht4 => first | k_is | rfl)
    (case hm4 => first | k_is | rfl)
    (case no4_value => first | k_is | rfl)
    (case xL5 => first | k_is | rfl)
    (case sa5 => first | k_is | rfl)
    (case ga5 => first | k_is | rfl)
    (case gg5 => first | k_is | rfl)
    (case kC5 => first | k_is | rfl)
    (case eC5 => first | k_is | rfl)
    (case tC5 => first | k_is | rfl)
    (case hC5 => first | k_is | rfl)
    (case sC5 => first | k_is | rfl)
    (case sC5_0 => first | k_is | rfl)
    (case no5_what => first | k_is | rfl)
    (case pg6 => first | k_is | rfl)
    (case hd6 => first | k_is | rfl)
    (case po6 => first | k_is | rfl)
    (case sb6 => first | k_is | rfl)
    (case mk6 => first | k_is | rfl)
    (case kc6 => first | k_is | rfl)
    (case ha6 => first | k_is | rfl)
    (case hn6 => first | k_is | rfl)
    (case ht6 => first | k_is | rfl)
    (case hm6 => first | k_is | rfl)
    (case kt6_int => first | k_is | rfl)
    (case kt6_bool => first | k_is | rfl)
    (case kt6_tuple => first | k_is | rfl)
    (case kt6_list => first | k_is | rfl)
    (case kt6_str => first | k_is | rfl)
    (case kx6_Row => first | k_is | rfl)
    (case no6_factors => first | k_is | rfl)
    (case no6_first => first | k_is | rfl)
    (case aK0 => first | k_is | rfl)
    (case lK0 => first | k_is | rfl)
    (case nb_abs => first | k_is | rfl)
    (case nb_len => first | k_is | rfl)
    (case nb_range => first | k_is | rfl)
    (case nb_int => first | k_is | rfl)
    (case nb_str => first | k_is | rfl)
    (case nb_isinstance => first | k_is | rfl)
    (case nb_tuple => first | k_is | rfl)
    (case nb_list => first | k_is | rfl)
    (case nb_sum => first | k_is | rfl)
    (case nb_min => first | k_is | rfl)
    (case nb_max => first | k_is | rfl)
    (case nb_all => first | k_is | rfl)
    (case nb_enumerate => first | k_is | rfl)
    (case nb_zip => first | k_is | rfl)
    (case nb_reversed => first | k_is | rfl)
    (case nb_bool => first | k_is | rfl)
    (case nb_ValueError => first | k_is | rfl)
