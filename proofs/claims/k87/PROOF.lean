import PyProof.Rows.All
import Wide.All
import OpenK.AllK
import Wide.FinOn
import HandS.ForMost
import HandS.Exc
import HandS.ExcOwn
import HandS.WordsExc
import HandS.IsInst
import HandS.CallSlots
import HandS.RaiseMore
import HandS.Wide
import HandS.TupAny
import HandS.Text
import HandS.Defaults
import HandS.MakeKw
import KE.KStateDown
import HandS.More
import HandS.EndBits
import HandS.Head0
import HandS.Head1
import HandS.Head2
import HandS.HeadEnd
import HandS.HeadHook1
import HandS.HeadHook2
import HandS.Dict
import HandS.Keys
import HandS.ExcInit
import HandS.ExcField
import HandS.ClsMeth
import PySem.Challenge.RW_everyprompt_k87_notebooks_kept_and_refus
set_option Elab.async false
set_option linter.all false
set_option maxRecDepth 100000
set_option maxHeartbeats 4000000
/-! Deep data over the hand layer: a value is told by what stands in it, all the way in; lists that change stand in a table of their own. -/
namespace Dx
open PySem L2
inductive D where
  | non | bl (b : Bool) | int (i : Int) | str (x : Str) | ty (n : String) | ref (a : Addr)
  | lst (ds : List D) | tup (ds : List D) | dic (ks : List (Key × D)) | ins (C : Addr) (fs : List (Str × D))
  /-- a list that is locked, or written at the top -/
  | wl (ds : List D)
  /-- a caught error: where it stands, its dict, its fields -/
  | exc (a dd : Addr) (fs : List (Str × D))
mutual
/-- in the frozen heap F the value v is the datum d -/
inductive Rep (K : PySem.W.Frag) (F : Hp) : D → V → Prop
  | non : Rep K F .non .non
  | bl (b : Bool) : Rep K F (.bl b) (.bl b)
  | int (i : Int) : Rep K F (.int i) (.int i)
  | str (x : Str) : Rep K F (.str x) (.str x)
  | ty (n : String) : Rep K F (.ty n) (.ty n)
  | ref (a : Addr) : Rep K F (.ref a) (.ref a)
  | lst {a : Addr} {xs : List V} {ds : List D} : F a = some (.lst xs) → RepA K F ds xs → Rep K F (.lst ds) (.ref a)
  | wl {a : Addr} {xs : List V} {ds : List D} : SqL K F a xs → RepA K F ds xs → Rep K F (.wl ds) (.ref a)
  | tup {a : Addr} {xs : List V} {ds : List D} : SqT K F a xs → RepA K F ds xs → Rep K F (.tup ds) (.ref a)
  | dic {a : Addr} {kvs : List (Key × V)} {ks : List (Key × D)} : F a = some (.dK kvs) → RepK K F ks kvs → Rep K F (.dic ks) (.ref a)
  | ins {a C dx : Addr} {fs : List (Str × V)} {gs : List (Str × D)} : F a = some (.ins C dx fs) → RepF K F gs fs → Rep K F (.ins C gs) (.ref a)
  | exc {a dd : Addr} {fs : List (Str × V)} {gs : List (Str × D)} : F dd = some (.xd fs) → RepF K F gs fs → Rep K F (.exc a dd gs) (.ref a)
inductive RepA (K : PySem.W.Frag) (F : Hp) : List D → List V → Prop
  | nil : RepA K F [] []
  | cons {d : D} {v : V} {ds : List D} {vs : List V} : Rep K F d v → RepA K F ds vs → RepA K F (d :: ds) (v :: vs)
inductive RepK (K : PySem.W.Frag) (F : Hp) : List (Key × D) → List (Key × V) → Prop
  | nil : RepK K F [] []
  | cons {k : Key} {d : D} {v : V} {ds : List (Key × D)} {vs : List (Key × V)} : Rep K F d v → RepK K F ds vs → RepK K F ((k, d) :: ds) ((k, v) :: vs)
inductive RepF (K : PySem.W.Frag) (F : Hp) : List (Str × D) → List (Str × V) → Prop
  | nil : RepF K F [] []
  | cons {k : Str} {d : D} {v : V} {ds : List (Str × D)} {vs : List (Str × V)} : Rep K F d v → RepF K F ds vs → RepF K F ((k, d) :: ds) ((k, v) :: vs)
end
section
variable {K : PySem.W.Frag} {F F' : Hp}
theorem same_sql (e : Same F F') {a : Addr} {xs : List V} (h : SqL K F a xs) : SqL K F' a xs := e.seq h
theorem same_sqt (e : Same F F') {a : Addr} {xs : List V} (h : SqT K F a xs) : SqT K F' a xs := by
  rcases h with (h | ⟨o, h⟩) | h
  · exact .inl (.inl (e _ _ h))
  · exact .inl (.inr ⟨o, e _ _ h⟩)
  · exact .inr h
mutual
theorem Rep.mono (e : Same F F') : ∀ {d : D} {v : V}, Rep K F d v → Rep K F' d v
  | _, _, .non => .non
  | _, _, .bl b => .bl b
  | _, _, .int i => .int i
  | _, _, .str x => .str x
  | _, _, .ty n => .ty n
  | _, _, .ref a => .ref a
  | _, _, .lst h r => .lst (e _ _ h) (RepA.mono e r)
  | _, _, .wl h r => .wl (same_sql e h) (RepA.mono e r)
  | _, _, .tup h r => .tup (same_sqt e h) (RepA.mono e r)
  | _, _, .dic h r => .dic (e _ _ h) (RepK.mono e r)
  | _, _, .ins h r => .ins (e _ _ h) (RepF.mono e r)
  | _, _, .exc h r => .exc (e _ _ h) (RepF.mono e r)
theorem RepA.mono (e : Same F F') : ∀ {ds : List D} {vs : List V}, RepA K F ds vs → RepA K F' ds vs
  | _, _, .nil => .nil
  | _, _, .cons h r => .cons (Rep.mono e h) (RepA.mono e r)
theorem RepK.mono (e : Same F F') : ∀ {ds : List (Key × D)} {vs : List (Key × V)}, RepK K F ds vs → RepK K F' ds vs
  | _, _, .nil => .nil
  | _, _, .cons h r => .cons (Rep.mono e h) (RepK.mono e r)
theorem RepF.mono (e : Same F F') : ∀ {ds : List (Str × D)} {vs : List (Str × V)}, RepF K F ds vs → RepF K F' ds vs
  | _, _, .nil => .nil
  | _, _, .cons h r => .cons (Rep.mono e h) (RepF.mono e r)
end
theorem RepA.length : ∀ {ds : List D} {vs : List V}, RepA K F ds vs → ds.length = vs.length
  | _, _, .nil => rfl
  | _, _, .cons _ r => by rw [List.length_cons, List.length_cons, RepA.length r]
theorem RepA.append : ∀ {ds es : List D} {vs ws : List V}, RepA K F ds vs → RepA K F es ws → RepA K F (ds ++ es) (vs ++ ws)
  | _, _, _, _, .nil, s => s
  | _, _, _, _, .cons h r, s => .cons h (RepA.append r s)
theorem RepA.get : ∀ {ds : List D} {vs : List V} {i : Nat} {d : D}, RepA K F ds vs → ds[i]? = some d → ∃ v, vs[i]? = some v ∧ Rep K F d v
  | _, _, _, _, .nil, e => by simp at e
  | _, _, 0, _, .cons h _, e => by simp at e; subst e; exact ⟨_, rfl, h⟩
  | _, _, i + 1, _, .cons _ r, e => by
    obtain ⟨v, h1, h2⟩ := RepA.get (i := i) r (by simpa using e)
    exact ⟨v, by simpa using h1, h2⟩
theorem RepA.getV : ∀ {ds : List D} {vs : List V} {i : Nat} {v : V}, RepA K F ds vs → vs[i]? = some v → ∃ d, ds[i]? = some d ∧ Rep K F d v
  | _, _, _, _, .nil, e => by simp at e
  | _, _, 0, _, .cons h _, e => by simp at e; subst e; exact ⟨_, rfl, h⟩
  | _, _, i + 1, _, .cons _ r, e => by
    obtain ⟨v, h1, h2⟩ := RepA.getV (i := i) r (by simpa using e)
    exact ⟨v, by simpa using h1, h2⟩
theorem RepA.take : ∀ {ds : List D} {vs : List V} (n : Nat), RepA K F ds vs → RepA K F (ds.take n) (vs.take n)
  | _, _, 0, _ => .nil
  | _, _, _ + 1, .nil => .nil
  | _, _, n + 1, .cons h r => .cons h (RepA.take n r)
theorem RepA.drop : ∀ {ds : List D} {vs : List V} (n : Nat), RepA K F ds vs → RepA K F (ds.drop n) (vs.drop n)
  | _, _, 0, r => r
  | _, _, _ + 1, .nil => .nil
  | _, _, n + 1, .cons _ r => RepA.drop n r
theorem RepA.set {d : D} {v : V} (q : Rep K F d v) : ∀ {ds : List D} {vs : List V} (i : Nat), RepA K F ds vs → RepA K F (ds.set i d) (vs.set i v)
  | _, _, _, .nil => .nil
  | _, _, 0, .cons _ r => .cons q r
  | _, _, i + 1, .cons h r => .cons h (RepA.set q i r)
end
/-- what changes: a list, a dict, an instance -/
inductive MO where
  | lst (ds : List D) | dic (ks : List (Key × D)) | ins (C : Addr) (fs : List (Str × D))
abbrev DH := Addr → Option MO
def updO (O : DH) (a : Addr) (m : MO) : DH := fun b => if b = a then some m else O b
theorem updO_same {O : DH} {a : Addr} {m : MO} : updO O a m a = some m := if_pos rfl
theorem updO_ne {O : DH} {a b : Addr} {m : MO} (h : b ≠ a) : updO O a m b = O b := if_neg h
def MRep (K : PySem.W.Frag) (F H : Hp) (a : Addr) : MO → Prop
  | .lst ds => ∃ xs, H a = some (.lst xs) ∧ RepA K F ds xs
  | .dic ks => ∃ kvs, H a = some (.dK kvs) ∧ RepK K F ks kvs
  | .ins C gs => ∃ dx fs, H a = some (.ins C dx fs) ∧ RepF K F gs fs
theorem MRep.some {K : PySem.W.Frag} {F H : Hp} {a : Addr} {m : MO} (h : MRep K F H a m) : ∃ o, H a = some o := by
  cases m with
  | lst ds => obtain ⟨xs, h, _⟩ := h; exact ⟨_, h⟩
  | dic ks => obtain ⟨xs, h, _⟩ := h; exact ⟨_, h⟩
  | ins C fs => obtain ⟨dx, xs, h, _⟩ := h; exact ⟨_, h⟩
theorem MRep.mono {K : PySem.W.Frag} {F F' H H' : Hp} {a : Addr} {m : MO} (h : MRep K F H a m) (e : Same F F') (q : H' a = H a) : MRep K F' H' a m := by
  cases m with
  | lst ds => obtain ⟨xs, h, r⟩ := h; exact ⟨xs, q.trans h, r.mono e⟩
  | dic ks => obtain ⟨xs, h, r⟩ := h; exact ⟨xs, q.trans h, r.mono e⟩
  | ins C fs => obtain ⟨dx, xs, h, r⟩ := h; exact ⟨dx, xs, q.trans h, r.mono e⟩
/-- the frozen part and the table of what changes, as they stand in H -/
structure OkS (K : PySem.W.Frag) (H F : Hp) (O : DH) : Prop where
  ex : Same F H
  own : ∀ a m, O a = some m → F a = none ∧ MRep K F H a m
/-- a new object is frozen -/
theorem OkS.lay {K : PySem.W.Frag} {H F : Hp} {O : DH} (k : OkS K H F O) {p : Addr} (hp : H p = none) (o : HO) : OkS K (upd H p o) (upd F p o) O ∧ Same F (upd F p o) := by
  have fp : F p = none := k.ex.free hp
  have e : Same F (upd F p o) := fun b u h => by rw [upd_ne (ne_of_none h fp)]; exact h
  refine ⟨⟨fun b u h => ?_, fun b m h => ?_⟩, e⟩
  · by_cases hb : b = p
    · subst hb; rw [upd_same] at h ⊢; exact h
    · rw [upd_ne hb] at h ⊢; exact k.ex b u h
  · obtain ⟨h1, h2⟩ := k.own b m h
    obtain ⟨u, hu⟩ := h2.some
    have ne : b ≠ p := ne_of_none hu hp
    exact ⟨by rw [upd_ne ne]; exact h1, h2.mono e (upd_ne ne)⟩
/-- a new object that is not told (it may be) -/
theorem OkS.more {K : PySem.W.Frag} {H F : Hp} {O : DH} (k : OkS K H F O) {p : Addr} (hp : H p = none) (o : HO) : OkS K (upd H p o) F O := by
  refine ⟨fun b u h => ?_, fun b m h => ?_⟩
  · rw [upd_ne (ne_of_none (k.ex b u h) hp)]; exact k.ex b u h
  · obtain ⟨h1, h2⟩ := k.own b m h
    obtain ⟨u, hu⟩ := h2.some
    exact ⟨h1, h2.mono (Same.refl F) (upd_ne (ne_of_none hu hp))⟩
/-- a new object that may change -/
theorem OkS.layM {K : PySem.W.Frag} {H F : Hp} {O : DH} (k : OkS K H F O) {p : Addr} (hp : H p = none) {o : HO} {m : MO} (hm : MRep K F (upd H p o) p m) : OkS K (upd H p o) F (updO O p m) := by
  have q := k.more hp o
  refine ⟨q.ex, fun b m' h => ?_⟩
  by_cases hb : b = p
  · subst hb
    rw [updO_same] at h
    cases h
    exact ⟨k.ex.free hp, hm⟩
  · rw [updO_ne hb] at h
    exact q.own b m' h
/-- what may change is changed -/
theorem OkS.put {K : PySem.W.Frag} {H F : Hp} {O : DH} (k : OkS K H F O) {p : Addr} {m0 : MO} (h0 : O p = some m0) {o : HO} {m : MO} (hm : MRep K F (upd H p o) p m) : OkS K (upd H p o) F (updO O p m) := by
  have fp := (k.own p m0 h0).1
  refine ⟨fun b u h => ?_, fun b m' h => ?_⟩
  · rw [upd_ne (ne_of_none h fp)]; exact k.ex b u h
  · by_cases hb : b = p
    · subst hb
      rw [updO_same] at h
      cases h
      exact ⟨fp, hm⟩
    · rw [updO_ne hb] at h
      obtain ⟨h1, h2⟩ := k.own b m' h
      exact ⟨h1, h2.mono (Same.refl F) (upd_ne hb)⟩
/-- less is told -/
def Sub (O O' : DH) : Prop := ∀ a m, O a = some m → O' a = some m
theorem Sub.refl (O : DH) : Sub O O := fun _ _ h => h
theorem Sub.new {O : DH} {a : Addr} {m : MO} (h : O a = none) : Sub O (updO O a m) := fun b m' e => by
  rw [updO_ne (fun z => by rw [z, h] at e; cases e)]; exact e
theorem OkS.less {K : PySem.W.Frag} {H F : Hp} {O O' : DH} (k : OkS K H F O) (s : Sub O' O) : OkS K H F O' := ⟨k.ex, fun a m h => k.own a m (s a m h)⟩
theorem OkS.freeO {K : PySem.W.Frag} {H F : Hp} {O : DH} (k : OkS K H F O) {p : Addr} (hp : H p = none) : O p = none := by
  cases q : O p with
  | none => rfl
  | some m =>
    obtain ⟨_, h2⟩ := k.own p m q
    obtain ⟨u, hu⟩ := h2.some
    rw [hp] at hu; cases hu
abbrev DEnv := List (Option D)
structure EnvOk (K : PySem.W.Frag) (F : Hp) (σ : L2.St) (ρ : DEnv) : Prop where
  len : σ.length = ρ.length
  at_ : ∀ (i : Nat) (d : D), ρ[i]? = some (some d) → ∃ v, σ[i]? = some (some v) ∧ Rep K F d v
theorem EnvOk.mono {K : PySem.W.Frag} {F F' : Hp} {σ : L2.St} {ρ : DEnv} (h : EnvOk K F σ ρ) (e : Same F F') : EnvOk K F' σ ρ :=
  ⟨h.len, fun i d q => let ⟨v, h1, h2⟩ := h.at_ i d q; ⟨v, h1, h2.mono e⟩⟩
theorem EnvOk.set {K : PySem.W.Frag} {F : Hp} {σ : L2.St} {ρ : DEnv} (h : EnvOk K F σ ρ) {d : D} {v : V} (r : Rep K F d v) (i : Nat) : EnvOk K F (σ.set i (some v)) (ρ.set i (some d)) := by
  refine ⟨by rw [List.length_set, List.length_set]; exact h.len, fun j d' q => ?_⟩
  by_cases hj : i = j
  · subst hj
    rw [List.getElem?_set] at q
    by_cases hl : i < ρ.length
    · simp only [if_pos hl, if_true] at q
      cases q
      refine ⟨v, ?_, r⟩
      rw [List.getElem?_set]
      simp [h.len, hl]
    · simp [hl] at q
  · rw [List.getElem?_set_ne hj] at q
    obtain ⟨w, h1, h2⟩ := h.at_ j d' q
    exact ⟨w, by rw [List.getElem?_set_ne hj]; exact h1, h2⟩
theorem EnvOk.unset {K : PySem.W.Frag} {F : Hp} {σ : L2.St} {ρ : DEnv} (h : EnvOk K F σ ρ) (i : Nat) (x : Option V) : EnvOk K F (σ.set i x) (ρ.set i none) := by
  refine ⟨by rw [List.length_set, List.length_set]; exact h.len, fun j d' q => ?_⟩
  by_cases hj : i = j
  · subst hj
    rw [List.getElem?_set] at q
    by_cases hl : i < ρ.length
    · simp [hl] at q
    · simp [hl] at q
  · rw [List.getElem?_set_ne hj] at q
    obtain ⟨w, h1, h2⟩ := h.at_ j d' q
    exact ⟨w, by rw [List.getElem?_set_ne hj]; exact h1, h2⟩
/-- an error's own fields -/
def ExcRep (K : PySem.W.Frag) (F : Hp) (dd : Option Addr) (fs : List (Str × D)) : Prop := (dd = none ∧ fs = []) ∨ ∃ a xs, dd = some a ∧ F a = some (.xd xs) ∧ RepF K F fs xs
theorem ExcRep.mono {K : PySem.W.Frag} {F F' : Hp} {dd : Option Addr} {fs : List (Str × D)} (h : ExcRep K F dd fs) (e : Same F F') : ExcRep K F' dd fs := by
  rcases h with h | ⟨a, xs, h1, h2, h3⟩
  · exact .inl h
  · exact .inr ⟨a, xs, h1, e _ _ h2, h3.mono e⟩
abbrev QD := D → DH → Prop
abbrev XD := Value → List (Str × D) → DH → Prop
abbrev TD := DEnv → DH → QD → XD → Prop
abbrev TDT := DEnv → DH → (Bool → DH → Prop) → XD → Prop
abbrev TDA := DEnv → DH → (List D → DH → Prop) → XD → Prop
structure DEnds where
  nx : DEnv → DH → Prop
  rt : QD
  bk : DEnv → DH → Prop
  ct : DEnv → DH → Prop
  ex : Value → List (Str × D) → DEnv → DH → Prop
abbrev TDS := DEnds → DEnv → DH → Prop
section
variable (K : PySem.W.Frag) (W : WX)
def XRel (F : Hp) (σ : L2.St) (Ed : XD) : Prop := ∀ cls dd H' F' fs O', Same F F' → ExcRep K F' dd fs → OkS K H' F' O' → Ed cls fs O' → W cls dd σ H'
def up (td : TD) : TE := fun σ H Q => ∃ F ρ O Qd Ed, OkS K H F O ∧ EnvOk K F σ ρ ∧ td ρ O Qd Ed ∧ (∀ v H' F' d O', Same F F' → Rep K F' d v → OkS K H' F' O' → Qd d O' → Q v H') ∧ XRel K W F σ Ed
def upT (td : TDT) : TT := fun σ H Q => ∃ F ρ O Qd Ed, OkS K H F O ∧ EnvOk K F σ ρ ∧ td ρ O Qd Ed ∧ (∀ b H' F' O', Same F F' → OkS K H' F' O' → Qd b O' → Q b H') ∧ XRel K W F σ Ed
def upA (td : TDA) : TA := fun σ H Q => ∃ F ρ O Qd Ed, OkS K H F O ∧ EnvOk K F σ ρ ∧ td ρ O Qd Ed ∧ (∀ vs H' F' ds O', Same F F' → RepA K F' ds vs → OkS K H' F' O' → Qd ds O' → Q vs H') ∧ XRel K W F σ Ed
structure EndsRel (F : Hp) (Dd : DEnds) (Dn : Ends) : Prop where
  nx : ∀ σ' H' F' ρ' O', Same F F' → OkS K H' F' O' → EnvOk K F' σ' ρ' → Dd.nx ρ' O' → Dn.nx σ' H'
  bk : ∀ σ' H' F' ρ' O', Same F F' → OkS K H' F' O' → EnvOk K F' σ' ρ' → Dd.bk ρ' O' → Dn.bk σ' H'
  ct : ∀ σ' H' F' ρ' O', Same F F' → OkS K H' F' O' → EnvOk K F' σ' ρ' → Dd.ct ρ' O' → Dn.ct σ' H'
  rt : ∀ v H' F' d O', Same F F' → Rep K F' d v → OkS K H' F' O' → Dd.rt d O' → Dn.rt v H'
  ex : ∀ cls dd σ' H' F' fs ρ' O', Same F F' → ExcRep K F' dd fs → OkS K H' F' O' → EnvOk K F' σ' ρ' → Dd.ex cls fs ρ' O' → W cls dd σ' H'
def upS (td : TDS) : TS := fun Dn σ H => ∃ F ρ O Dd, OkS K H F O ∧ EnvOk K F σ ρ ∧ td Dd ρ O ∧ EndsRel K W F Dd Dn
end
theorem XRel.mono {K : PySem.W.Frag} {W : WX} {F F' : Hp} {σ : L2.St} {Ed : XD} (x : XRel K W F σ Ed) (e : Same F F') : XRel K W F' σ Ed := fun cls dd H' F'' fs O' e' r k q => x cls dd H' F'' fs O' (e.trans e') r k q
theorem EndsRel.mono {K : PySem.W.Frag} {W : WX} {F F' : Hp} {Dd : DEnds} {Dn : Ends} (x : EndsRel K W F Dd Dn) (e : Same F F') : EndsRel K W F' Dd Dn :=
  ⟨fun _ _ _ _ _ h => x.nx _ _ _ _ _ (e.trans h), fun _ _ _ _ _ h => x.bk _ _ _ _ _ (e.trans h), fun _ _ _ _ _ h => x.ct _ _ _ _ _ (e.trans h), fun _ _ _ _ _ h => x.rt _ _ _ _ _ (e.trans h), fun _ _ _ _ _ _ _ _ h => x.ex _ _ _ _ _ _ _ _ (e.trans h)⟩
theorem EndsRel.xr {K : PySem.W.Frag} {W : WX} {F : Hp} {Dd : DEnds} {Dn : Ends} (x : EndsRel K W F Dd Dn) {σ : L2.St} {ρ : DEnv} (env : EnvOk K F σ ρ) : XRel K W F σ (fun c f O' => Dd.ex c f ρ O') :=
  fun cls dd H' F' fs O' e r k q => x.ex cls dd σ H' F' fs ρ O' e r k (env.mono e) q
abbrev DE (X : Cx) (W : WX) (e : Expr) (td : TD) : Prop := PE X e (up X.K W td)
abbrev DT (X : Cx) (W : WX) (e : Expr) (td : TDT) : Prop := PT X e (upT X.K W td)
abbrev DW (X : Cx) (W : WX) (e : Expr) (td : TDT) : Prop := PW X e (upT X.K W td)
abbrev DA (X : Cx) (W : WX) (es : List Expr) (td : TDA) : Prop := PA X es (upA X.K W td)
abbrev DS (X : Cx) (W : WX) (st : Stmt) (td : TDS) : Prop := PS X st (upS X.K W td)
abbrev DSs (X : Cx) (W : WX) (st : List Stmt) (td : TDS) : Prop := PSs X st (upS X.K W td)
theorem pe_imp {X : Cx} {e : Expr} {te te' : TE} (h : PE X e te) (i : ∀ σ H Q, te' σ H Q → te σ H Q) : PE X e te' := ⟨fun pins s σ H Q I hw => h.run pins s σ H Q I (i σ H Q hw)⟩
theorem pt_imp {X : Cx} {e : Expr} {te te' : TT} (h : PT X e te) (i : ∀ σ H Q, te' σ H Q → te σ H Q) : PT X e te' := ⟨fun pins s σ H Q I hw => h.run pins s σ H Q I (i σ H Q hw)⟩
theorem pw_imp {X : Cx} {e : Expr} {te te' : TT} (h : PW X e te) (i : ∀ σ H Q, te' σ H Q → te σ H Q) : PW X e te' := ⟨fun wh pins s σ H Q I hw => h.run wh pins s σ H Q I (i σ H Q hw)⟩
theorem pa_imp {X : Cx} {es : List Expr} {te te' : TA} (h : PA X es te) (i : ∀ σ H Q, te' σ H Q → te σ H Q) : PA X es te' := ⟨fun pos pins s σ H Q I hw => h.run pos pins s σ H Q I (i σ H Q hw)⟩
theorem ps_imp {X : Cx} {st : Stmt} {te te' : TS} (h : PS X st te) (i : ∀ E σ H, te' E σ H → te E σ H) : PS X st te' := ⟨fun pins s σ H E I hw => h.run pins s σ H E I (i E σ H hw)⟩
theorem pss_imp {X : Cx} {st : List Stmt} {te te' : TS} (h : PSs X st te) (i : ∀ E σ H, te' E σ H → te E σ H) : PSs X st te' := ⟨fun pins s σ H E I hw => h.run pins s σ H E I (i E σ H hw)⟩
end Dx
namespace Dx
open PySem L2
/-! ### names, constants -/
def dVar (i : Nat) : TD := fun ρ O Q _ => match ρ[i]? with
  | some (some d) => Q d O
  | _ => False
def dC (d : D) : TD := fun _ O Q _ => Q d O
section
variable {X : Cx} {W : WX}
theorem de_var (i : Nat) {x : Str} {pos : Pos} (hN : X.N[i]? = some x := by rfl) (hv : Vis X.env.scope x := by first | exact Or.inl rfl | exact Or.inr (Or.inl rfl) | exact Or.inr (Or.inr rfl)) (hd : (x == ("__debug__" : Str)) = false := by decide)
    (hcd : (x == ("__classdict__" : Str)) = false := by decide) : DE X W (.Name x pos) (dVar i) := by
  refine pe_imp (pe_var hN hv hd hcd) fun σ H Q h => ?_
  obtain ⟨F, ρ, O, Qd, Ed, ok, env, td, k, _⟩ := h
  unfold dVar at td
  split at td
  · next d e =>
    obtain ⟨v, h1, h2⟩ := env.at_ i d e
    exact ⟨v, h1, k v H F d O (Same.refl F) h2 ok td⟩
  · exact td.elim
theorem up_c {K : PySem.W.Frag} {d : D} {v : V} (r : ∀ F, Rep K F d v) : ∀ σ H Q, up K W (dC d) σ H Q → tC v σ H Q := fun σ H Q h => by
  obtain ⟨F, ρ, O, Qd, Ed, ok, env, td, k, _⟩ := h
  exact k v H F d O (Same.refl F) (r F) ok td
theorem de_int {i j pos} : DE X W (.Constant (.int i) j pos) (dC (.int i)) := pe_imp pe_int (up_c fun _ => .int i)
theorem de_bl {b j pos} : DE X W (.Constant (.bool b) j pos) (dC (.bl b)) := pe_imp pe_bl (up_c fun _ => .bl b)
theorem de_non {j pos} : DE X W (.Constant .none j pos) (dC .non) := pe_imp pe_non (up_c fun _ => .non)
theorem de_str {x j pos} : DE X W (.Constant (.str x) j pos) (dC (.str x)) := pe_imp pe_str (up_c fun _ => .str x)
theorem de_glob {x : Str} {d : D} {v : V} {u : Value} {pos : Pos} (hg : Gl X x) (hm : X.mg x = some u) (r : RelV v u) (rd : ∀ F, Rep X.K F d v) (hd : (x == ("__debug__" : Str)) = false := by decide) : DE X W (.Name x pos) (dC d) := pe_imp (pe_glob hg hm r hd) (up_c rd)
theorem de_ty {x : Str} {n : String} {pos : Pos} (hg : Gl X x) (hm : X.mg x = none) (hv : bootBuiltins x = some (.type n)) (hn : x ≠ "__name__" := by decide) (hd : (x == ("__debug__" : Str)) = false := by decide) : DE X W (.Name x pos) (dC (.ty n)) :=
  pe_imp (pe_bltn (v := .ty n) hg hm hv rfl hn hd) (up_c fun _ => .ty n)
/-! ### operators -/
abbrev FD2 := DH → D → D → (D → Prop) → Prop
def dBin (f : FD2) (ta tb : TD) : TD := fun ρ O Q E => ta ρ O (fun x O1 => tb ρ O1 (fun y O2 => f O2 x y fun z => Q z O2) E) E
def Op2 (K : PySem.W.Frag) (r : R2) (f : FD2) : Prop := ∀ (H F : Hp) (O : DH) (dx dy : D) (x y : V) (Qd : D → Prop) (Q : VK), OkS K H F O → Rep K F dx x → Rep K F dy y → f O dx dy Qd →
  (∀ v H' F' d, Same F F' → Rep K F' d v → OkS K H' F' O → Qd d → Q v H') → r x y H Q
theorem up_bin {K : PySem.W.Frag} {r : R2} {f : FD2} {ta tb : TD} (h : Op2 K r f) : ∀ σ H Q, up K W (dBin f ta tb) σ H Q → tOp r (up K W ta) (up K W tb) σ H Q := fun σ H Q u => by
  obtain ⟨F, ρ, O, Qd, Ed, ok, env, td, k, xr⟩ := u
  refine ⟨F, ρ, O, _, Ed, ok, env, td, fun v H1 F1 d O1 e1 r1 ok1 q1 => ?_, xr⟩
  refine ⟨F1, ρ, O1, _, Ed, ok1, env.mono e1, q1, fun v2 H2 F2 d2 O2 e2 r2 ok2 q2 => ?_, xr.mono e1⟩
  exact h H2 F2 O2 d d2 v v2 _ Q ok2 (r1.mono e2) r2 q2 fun v3 H3 F3 d3 e3 r3 ok3 q3 => k v3 H3 F3 d3 O2 ((e1.trans e2).trans e3) r3 ok3 q3
theorem de_op {op : Operator} {r : R2} {f : FD2} {a b : Expr} {ta tb : TD} {pos : Pos} (ho : OpR X (binaryOp op) r) (h : Op2 X.K r f) (ha : DE X W a ta) (hb : DE X W b tb) : DE X W (.BinOp a op b pos) (dBin f ta tb) := pe_imp (pe_op ho ha hb) (up_bin h)
theorem de_cmp {op : CmpOp} {r : R2} {f : FD2} {a b : Expr} {ta tb : TD} {pos : Pos} (ho : OpR X (compareOp op) r) (h : Op2 X.K r f) (ha : DE X W a ta) (hb : DE X W b tb) (hm : behindInMarks op b = false := by rfl) : DE X W (.Compare a [op] [b] pos) (dBin f ta tb) := pe_imp (pe_cmpR ho ha hb hm) (up_bin h)
theorem de_ix {r : R2} {f : FD2} {a b : Expr} {ta tb : TD} {pos : Pos} (hr : IxR X r) (h : Op2 X.K r f) (ha : DE X W a ta) (hb : DE X W b tb) (hs : PlainIx b := by intro _ _; rfl) : DE X W (.Subscript a b pos) (dBin f ta tb) := pe_imp (pe_ix hr ha hb hs) (up_bin h)
theorem Op2.or {K : PySem.W.Frag} {r r' : R2} {f : FD2} {f1 f2 : FD2} (h : Op2 K r f1) (h' : Op2 K r' f2) (s : ∀ O x y Q, f O x y Q → f1 O x y Q ∨ f2 O x y Q) : Op2 K (fun x y H Q => r x y H Q ∨ r' x y H Q) f := fun H F O dx dy x y Qd Q ok rx ry q k => by
  rcases s _ _ _ _ q with q | q
  · exact .inl (h H F O dx dy x y Qd Q ok rx ry q k)
  · exact .inr (h' H F O dx dy x y Qd Q ok rx ry q k)
def dUn (f : D → (D → Prop) → Prop) (ta : TD) : TD := fun ρ O Q E => ta ρ O (fun x O1 => f x fun z => Q z O1) E
def Op1 (K : PySem.W.Frag) (r : V → Hp → VK → Prop) (f : D → (D → Prop) → Prop) : Prop := ∀ (H F : Hp) (O : DH) (dx : D) (x : V) (Qd : D → Prop) (Q : VK), OkS K H F O → Rep K F dx x → f dx Qd →
  (∀ v H' F' d, Same F F' → Rep K F' d v → OkS K H' F' O → Qd d → Q v H') → r x H Q
theorem de_un {op : UnaryOp} {r : V → Hp → VK → Prop} {f : D → (D → Prop) → Prop} {a : Expr} {ta : TD} {pos : Pos} (ho : UnR X (unaryOp op) r) (h : Op1 X.K r f) (ha : DE X W a ta) : DE X W (.UnaryOp op a pos) (dUn f ta) := by
  refine pe_imp (pe_un ho ha) fun σ H Q u => ?_
  obtain ⟨F, ρ, O, Qd, Ed, ok, env, td, k, xr⟩ := u
  refine ⟨F, ρ, O, _, Ed, ok, env, td, fun v H1 F1 d O1 e1 r1 ok1 q1 => ?_, xr⟩
  exact h H1 F1 O1 d v _ Q ok1 r1 q1 fun v3 H3 F3 d3 e3 r3 ok3 q3 => k v3 H3 F3 d3 O1 (e1.trans e3) r3 ok3 q3
end
section
variable {K : PySem.W.Frag}
/-- two ints -/
def fI (C : Int → Int → Prop) (g : Int → Int → D) : FD2 := fun _ x y Q => match x, y with
  | .int i, .int j => C i j ∧ Q (g i j)
  | _, _ => False
def fI0 (g : Int → Int → D) : FD2 := fun _ x y Q => match x, y with
  | .int i, .int j => Q (g i j)
  | _, _ => False
theorem o2_I {C : Int → Int → Prop} {g : Int → Int → D} {gv : Int → Int → V} (hg : ∀ F i j, Rep K F (g i j) (gv i j)) : Op2 K (rI C gv) (fI C g) := fun H F O dx dy x y Qd Q ok rx ry q k => by
  unfold fI at q
  split at q
  · cases rx; cases ry
    exact ⟨_, _, rfl, rfl, q.1, k _ H F _ (Same.refl F) (hg _ _ _) ok q.2⟩
  · exact q.elim
theorem o2_I0 {g : Int → Int → D} {gv : Int → Int → V} (hg : ∀ F i j, Rep K F (g i j) (gv i j)) : Op2 K (rI0 gv) (fI0 g) := fun H F O dx dy x y Qd Q ok rx ry q k => by
  unfold fI0 at q
  split at q
  · cases rx; cases ry
    exact ⟨_, _, rfl, rfl, k _ H F _ (Same.refl F) (hg _ _ _) ok q⟩
  · exact q.elim
def fU (g : Int → D) : D → (D → Prop) → Prop := fun x Q => match x with
  | .int i => Q (g i)
  | _ => False
theorem o1_U {g : Int → D} {gv : Int → V} (hg : ∀ F i, Rep K F (g i) (gv i)) : Op1 K (rU gv) (fU g) := fun H F O dx x Qd Q ok rx q k => by
  unfold fU at q
  split at q
  · cases rx
    exact ⟨_, rfl, k _ H F _ (Same.refl F) (hg _ _) ok q⟩
  · exact q.elim
/-- what a list or tuple holds; a list that changes, too -/
def items (O : DH) : D → Option (List D)
  | .lst ds => some ds
  | .wl ds => some ds
  | .tup ds => some ds
  | .ref a => match O a with
    | some (.lst ds) => some ds
    | _ => none
  | _ => none
theorem OkS.lst {K : PySem.W.Frag} {H F : Hp} {O : DH} (k : OkS K H F O) {a : Addr} {ds : List D} (h : O a = some (.lst ds)) : ∃ xs, H a = some (.lst xs) ∧ RepA K F ds xs := (k.own a _ h).2
theorem items_rep {H F : Hp} {O : DH} (k : OkS K H F O) {d : D} {v : V} (r : Rep K F d v) {ds : List D} (h : items O d = some ds) : ∃ a xs, v = .ref a ∧ (SqL K H a xs ∨ SqT K H a xs) ∧ RepA K F ds xs := by
  cases r with
  | lst h1 h2 => cases h; exact ⟨_, _, rfl, .inl (.inl (.inl (k.ex _ _ h1))), h2⟩
  | wl h1 h2 => cases h; exact ⟨_, _, rfl, .inl (same_sql k.ex h1), h2⟩
  | tup h1 h2 => cases h; exact ⟨_, _, rfl, .inr (same_sqt k.ex h1), h2⟩
  | ref a =>
    unfold items at h
    simp only at h
    split at h
    · next ds' e =>
      cases h
      obtain ⟨xs, h1, h2⟩ := k.lst e
      exact ⟨a, xs, rfl, .inl (.inl (.inl h1)), h2⟩
    · cases h
  | non => cases h
  | bl => cases h
  | int => cases h
  | str => cases h
  | ty => cases h
  | dic => cases h
  | ins => cases h
  | exc => cases h
/-- a list alone -/
def itemsL (O : DH) : D → Option (List D)
  | .lst ds => some ds
  | .wl ds => some ds
  | .ref a => match O a with
    | some (.lst ds) => some ds
    | _ => none
  | _ => none
theorem itemsL_rep {H F : Hp} {O : DH} (k : OkS K H F O) {d : D} {v : V} (r : Rep K F d v) {ds : List D} (h : itemsL O d = some ds) : ∃ a xs, v = .ref a ∧ SqL K H a xs ∧ RepA K F ds xs := by
  cases r with
  | lst h1 h2 => cases h; exact ⟨_, _, rfl, .inl (.inl (k.ex _ _ h1)), h2⟩
  | wl h1 h2 => cases h; exact ⟨_, _, rfl, same_sql k.ex h1, h2⟩
  | ref a =>
    unfold itemsL at h
    simp only at h
    split at h
    · next ds' e =>
      cases h
      obtain ⟨xs, h1, h2⟩ := k.lst e
      exact ⟨a, xs, rfl, .inl (.inl h1), h2⟩
    · cases h
  | tup => cases h
  | non => cases h
  | bl => cases h
  | int => cases h
  | str => cases h
  | ty => cases h
  | dic => cases h
  | ins => cases h
  | exc => cases h
/-! ### xs[i] -/
theorem ixN_lt {n : Nat} {i : Int} {j : Nat} (h : ixN n i = some j) : j < n := (ixN_seq h).2.1
def ixD (O : DH) (x y : D) : Option D := match y with
  | .int i => match x with
    | .str z => if z.length ≤ sizeLine then (atI z.cps.toList i).map fun c => .str ⟨#[c]⟩ else none
    | x => (items O x).bind fun ds => atI ds i
  | _ => none
def fIx : FD2 := fun O x y Q => match ixD O x y with
  | some d => Q d
  | none => False
theorem atI_rep {F : Hp} {ds : List D} {xs : List V} (r : RepA K F ds xs) {i : Int} {d : D} (h : atI ds i = some d) : ∃ v, atI xs i = some v ∧ Rep K F d v := by
  unfold atI at h ⊢
  rw [← r.length]
  cases e : ixN ds.length i with
  | none => rw [e] at h; cases h
  | some j =>
    rw [e] at h
    exact r.get h
theorem o2_ix : Op2 K (rIx K) fIx := fun H F O dx dy x y Qd Q ok rx ry q k => by
  unfold fIx at q
  split at q
  · next d hd =>
    unfold ixD at hd
    split at hd
    · next i =>
      cases ry
      split at hd
      · next z =>
        cases rx
        by_cases hz : z.length ≤ sizeLine
        · rw [if_pos hz] at hd
          cases hc : atI z.cps.toList i with
          | none => rw [hc] at hd; cases hd
          | some c =>
            rw [hc] at hd
            cases hd
            exact .inr (.inr ⟨z, i, c, rfl, rfl, hz, hc, k _ H F _ (Same.refl F) (.str _) ok q⟩)
        · rw [if_neg hz] at hd; cases hd
      · cases hi : items O dx with
        | none => rw [hi] at hd; cases hd
        | some ds =>
          rw [hi] at hd
          obtain ⟨a, xs, e, hs, ra⟩ := items_rep ok rx hi
          obtain ⟨v, hv, rv⟩ := atI_rep ra hd
          have fin := k v H F d (Same.refl F) rv ok q
          rcases hs with hs | hs
          · exact .inl ⟨a, xs, i, v, e, rfl, hs, hv, fin⟩
          · exact .inr (.inl ⟨a, xs, i, v, e, rfl, hs, hv, fin⟩)
    · cases hd
  · exact q.elim
/-! ### == of data -/
mutual
def D.py : D → Option PyData
  | .non => some .none
  | .bl b => some (.bool b)
  | .int i => some (.int i)
  | .str x => some (.str x)
  | .lst ds => (D.pys ds).map .list
  | .wl ds => (D.pys ds).map .list
  | .tup ds => (D.pys ds).map .tuple
  | _ => none
def D.pys : List D → Option (List PyData)
  | [] => some []
  | d :: ds => match D.py d, D.pys ds with
    | some p, some ps => some (p :: ps)
    | _, _ => none
end
mutual
theorem Rep.dp {H F : Hp} (e : Same F H) : ∀ {d : D} {v : V} {p : PyData}, Rep K F d v → d.py = some p → Dp K H v p
  | .non, _, _, .non, h => by cases h; exact .non
  | .bl b, _, _, .bl _, h => by cases h; exact .bl b
  | .int b, _, _, .int _, h => by cases h; exact .int b
  | .str b, _, _, .str _, h => by cases h; exact .str b
  | .lst ds, _, p, .lst hs ra, h => by
    unfold D.py at h
    cases hp : D.pys ds with
    | none => rw [hp] at h; cases h
    | some ps => rw [hp] at h; cases h; exact .lst (.inl (.inl (e _ _ hs))) (RepA.dp e ra hp)
  | .wl ds, _, p, .wl hs ra, h => by
    unfold D.py at h
    cases hp : D.pys ds with
    | none => rw [hp] at h; cases h
    | some ps => rw [hp] at h; cases h; exact .lst (same_sql e hs) (RepA.dp e ra hp)
  | .tup ds, _, p, .tup hs ra, h => by
    unfold D.py at h
    cases hp : D.pys ds with
    | none => rw [hp] at h; cases h
    | some ps => rw [hp] at h; cases h; exact .tup (same_sqt e hs) (RepA.dp e ra hp)
  | .ty _, _, _, .ty _, h => by cases h
  | .ref _, _, _, .ref _, h => by cases h
  | .dic _, _, _, .dic _ _, h => by cases h
  | .ins _ _, _, _, .ins _ _, h => by cases h
  | .exc _ _ _, _, _, .exc _ _, h => by cases h
theorem RepA.dp {H F : Hp} (e : Same F H) : ∀ {ds : List D} {vs : List V} {ps : List PyData}, RepA K F ds vs → D.pys ds = some ps → DpAll K H vs ps
  | [], _, _, .nil, h => by cases h; exact .nil
  | d :: ds, _, ps, .cons hd hr, h => by
    unfold D.pys at h
    cases h1 : D.py d with
    | none => rw [h1] at h; cases h
    | some p =>
      cases h2 : D.pys ds with
      | none => rw [h1, h2] at h; cases h
      | some qs => rw [h1, h2] at h; cases h; exact .cons (Rep.dp e hd h1) (RepA.dp e hr h2)
end
def shown? (O : DH) : D → Option PyData
  | .ref a => match O a with
    | some (.lst ds) => (D.pys ds).map .list
    | _ => none
  | d => d.py
theorem shown_dp {H F : Hp} {O : DH} (k : OkS K H F O) {d : D} {v : V} {p : PyData} (r : Rep K F d v) (h : shown? O d = some p) : Dp K H v p := by
  cases d with
  | ref a =>
    cases r
    unfold shown? at h
    simp only at h
    split at h
    · next ds e =>
      obtain ⟨xs, h1, h2⟩ := k.lst e
      cases hp : D.pys ds with
      | none => rw [hp] at h; cases h
      | some ps => rw [hp] at h; cases h; exact .lst (.inl (.inl h1)) (h2.dp k.ex hp)
    · cases h
  | _ => exact r.dp k.ex h
/-- texts at once; all else as data -/
def fEq : FD2 := fun O x y Q => match x, y with
  | .str a, .str b => Q (.bl (decide (a = b)))
  | x, y => match shown? O x, shown? O y with
    | some p, some q => SeqAt.shaped p = true ∧ SeqAt.shaped q = true ∧ Q (.bl (PyData.eqv p q))
    | _, _ => False
def fNe : FD2 := fun O x y Q => match x, y with
  | .str a, .str b => Q (.bl (!decide (a = b)))
  | x, y => match shown? O x, shown? O y with
    | some p, some q => SeqAt.shaped p = true ∧ SeqAt.shaped q = true ∧ Q (.bl (!PyData.eqv p q))
    | _, _ => False
abbrev rEq2 (K : PySem.W.Frag) : R2 := fun x y H Q => rEq x y H Q ∨ rEqD K x y H Q
abbrev rNe2 (K : PySem.W.Frag) : R2 := fun x y H Q => rNe x y H Q ∨ rNeD K x y H Q
theorem op_eq2 {X : Cx} (hu : X.A.units + 64 < cLine) : OpR X (compareOp .Eq) (rEq2 X.K) := op_eq.or (op_eqD hu)
theorem op_ne2 {X : Cx} (hu : X.A.units + 64 < cLine) : OpR X (compareOp .NotEq) (rNe2 X.K) := op_ne.or (op_neD hu)
theorem dec_V {a b : Str} : decide (V.str a = V.str b) = decide (a = b) := by
  by_cases h : a = b
  · subst h; simp
  · simp [h]
theorem o2_eq : Op2 K (rEq2 K) fEq := fun H F O dx dy x y Qd Q ok rx ry q k => by
  unfold fEq at q
  split at q
  · cases rx; cases ry
    exact .inl ⟨rfl, by rw [dec_V]; exact k _ H F _ (Same.refl F) (.bl _) ok q⟩
  · split at q
    · next p q' h1 h2 => exact .inr ⟨p, q', shown_dp ok rx h1, shown_dp ok ry h2, q.1, q.2.1, k _ H F _ (Same.refl F) (.bl _) ok q.2.2⟩
    · exact q.elim
theorem o2_ne : Op2 K (rNe2 K) fNe := fun H F O dx dy x y Qd Q ok rx ry q k => by
  unfold fNe at q
  split at q
  · cases rx; cases ry
    exact .inl ⟨rfl, by rw [dec_V]; exact k _ H F _ (Same.refl F) (.bl _) ok q⟩
  · split at q
    · next p q' h1 h2 => exact .inr ⟨p, q', shown_dp ok rx h1, shown_dp ok ry h2, q.1, q.2.1, k _ H F _ (Same.refl F) (.bl _) ok q.2.2⟩
    · exact q.elim
/-! ### is None -/
def noneD : D → Bool
  | .non => true
  | _ => false
theorem noneD_rep {F : Hp} {d : D} {v : V} (r : Rep K F d v) : decide (v = V.non) = noneD d := by
  cases r <;> simp [noneD]
def fIsN : FD2 := fun _ x y Q => match y with
  | .non => Q (.bl (noneD x))
  | _ => False
def fNotN : FD2 := fun _ x y Q => match y with
  | .non => Q (.bl (!noneD x))
  | _ => False
theorem o2_isN : Op2 K (fun x y H Q => y = .non ∧ Q (.bl (decide (x = .non))) H) fIsN := fun H F O dx dy x y Qd Q ok rx ry q k => by
  unfold fIsN at q
  split at q
  · cases ry
    refine ⟨rfl, ?_⟩
    rw [noneD_rep rx]
    exact k _ H F _ (Same.refl F) (.bl _) ok q
  · exact q.elim
theorem o2_notN : Op2 K (fun x y H Q => y = .non ∧ Q (.bl (!decide (x = .non))) H) fNotN := fun H F O dx dy x y Qd Q ok rx ry q k => by
  unfold fNotN at q
  split at q
  · cases ry
    refine ⟨rfl, ?_⟩
    rw [noneD_rep rx]
    exact k _ H F _ (Same.refl F) (.bl _) ok q
  · exact q.elim
end
end Dx
namespace Dx
open PySem L2
section
variable {X : Cx} {W : WX} {a b c e : Expr} {ta tb tc : TD} {pos : Pos} {rest : List Expr} {tA tB : TDT}
/-! ### tests -/
def dTst (t : TD) : TDT := fun ρ O Q E => t ρ O (fun d O1 => match d with
  | .bl c => Q c O1
  | _ => False) E
theorem up_tst {K : PySem.W.Frag} {t : TD} : ∀ σ H Q, upT K W (dTst t) σ H Q → L2.tB (up K W t) σ H Q := fun σ H Q u => by
  obtain ⟨F, ρ, O, Qd, Ed, ok, env, td, k, xr⟩ := u
  refine ⟨F, ρ, O, _, Ed, ok, env, td, fun v H1 F1 d O1 e1 r1 ok1 q1 => ?_, xr⟩
  split at q1
  · cases r1
    exact ⟨_, rfl, k _ H1 F1 O1 e1 ok1 q1⟩
  · exact q1.elim
theorem dt_val {t : TD} (h : DE X W e t) (he : ∀ whole, isTrue e X.env whole = (do let v ← whole; standAt e.pos; holding [v] (truthy v)) := by intro _; rfl) : DT X W e (dTst t) := pt_imp (pt_val h he) up_tst
theorem dt_cmp {op : CmpOp} {r : R2} {f : FD2} (ho : OpR X (compareOp op) r) (h : Op2 X.K r f) (ha : DE X W a ta) (hb : DE X W b tb) (hm : behindInMarks op b = false := by rfl) : DT X W (.Compare a [op] [b] pos) (dTst (dBin f ta tb)) :=
  pt_imp (pt_cmpR ho ha hb hm) fun σ H Q u => by
    obtain ⟨F, ρ, O, Qd, Ed, ok, env, td, k, xr⟩ := u
    refine up_bin h σ H _ ⟨F, ρ, O, _, Ed, ok, env, td, fun v H1 F1 d O1 e1 r1 ok1 q1 => ?_, xr⟩
    split at q1
    · cases r1
      exact ⟨_, rfl, k _ H1 F1 O1 e1 ok1 q1⟩
    · exact q1.elim
def truth (O : DH) : D → Option Bool
  | .non => some false
  | .bl b => some b
  | .int i => some (i != 0)
  | .str x => if x.length ≤ sizeLine then some ((x.length : Int) != 0) else none
  | .dic ks => some (!ks.isEmpty)
  | d => (items O d).map fun ds => !ds.isEmpty
theorem isE_rep {K : PySem.W.Frag} {F : Hp} {ds : List D} {xs : List V} (r : RepA K F ds xs) : ds.isEmpty = xs.isEmpty := by cases r <;> rfl
theorem isK_rep {K : PySem.W.Frag} {F : Hp} {ds : List (Key × D)} {xs : List (Key × V)} (r : RepK K F ds xs) : ds.isEmpty = xs.isEmpty := by cases r <;> rfl
theorem truth_rep {K : PySem.W.Frag} {H F : Hp} {O : DH} (k : OkS K H F O) {d : D} {v : V} (r : Rep K F d v) {t : Bool} (h : truth O d = some t) : TruV K v H t := by
  have gen : (items O d).map (fun ds => !ds.isEmpty) = some t → TruV K v H t := fun h => by
    cases hi : items O d with
    | none => rw [hi] at h; cases h
    | some ds =>
      rw [hi] at h
      cases h
      obtain ⟨a, xs, rfl, hs, ra⟩ := items_rep k r hi
      show TruV K (.ref a) H (!ds.isEmpty)
      rw [isE_rep ra]
      rcases hs with hs | hs
      · exact .inl ⟨xs, hs, rfl⟩
      · exact .inr (.inl ⟨xs, hs, rfl⟩)
  cases r with
  | non => cases h; rfl
  | bl b => cases h; rfl
  | int i => cases h; rfl
  | str x =>
    have h' : (if x.length ≤ sizeLine then some ((x.length : Int) != 0) else none) = some t := h
    by_cases hz : x.length ≤ sizeLine
    · rw [if_pos hz] at h'; cases h'; exact ⟨hz, rfl⟩
    · rw [if_neg hz] at h'; cases h'
  | dic h1 h2 =>
    cases h
    rw [isK_rep h2]
    exact .inr (.inr ⟨_, k.ex _ _ h1, rfl⟩)
  | ty => cases h
  | ins => cases h
  | exc => cases h
  | ref => exact gen h
  | lst => exact gen h
  | wl => exact gen h
  | tup => exact gen h
def dTru (t : TD) : TDT := fun ρ O Q E => t ρ O (fun d O1 => match truth O1 d with
  | some c => Q c O1
  | none => False) E
theorem dt_tru {t : TD} (h : DE X W e t) (he : ∀ whole, isTrue e X.env whole = (do let v ← whole; standAt e.pos; holding [v] (truthy v)) := by intro _; rfl) : DT X W e (dTru t) :=
  pt_imp (pt_truth h he) fun σ H Q u => by
    obtain ⟨F, ρ, O, Qd, Ed, ok, env, td, k, xr⟩ := u
    refine ⟨F, ρ, O, _, Ed, ok, env, td, fun v H1 F1 d O1 e1 r1 ok1 q1 => ?_, xr⟩
    split at q1
    · next ht => exact ⟨_, truth_rep ok1 r1 ht, k _ H1 F1 O1 e1 ok1 q1⟩
    · exact q1.elim
def dAnd (t u : TDT) : TDT := fun ρ O Q E => t ρ O (fun c O1 => match c with
  | true => u ρ O1 Q E
  | false => Q false O1) E
def dOr (t u : TDT) : TDT := fun ρ O Q E => t ρ O (fun c O1 => match c with
  | true => Q true O1
  | false => u ρ O1 Q E) E
def dNot (t : TDT) : TDT := fun ρ O Q E => t ρ O (fun c O1 => Q (!c) O1) E
theorem dw_and1 (ha : DT X W a tA) : DW X W (.BoolOp .And [a] pos) tA := pw_and1 ha
theorem dw_or1 (ha : DT X W a tA) : DW X W (.BoolOp .Or [a] pos) tA := pw_or1 ha
theorem dw_and (ha : DT X W a tA) (hb : DW X W (.BoolOp .And (b :: rest) pos) tB) : DW X W (.BoolOp .And (a :: b :: rest) pos) (dAnd tA tB) := pw_imp (pw_and ha hb) fun σ H Q u => by
  obtain ⟨F, ρ, O, Qd, Ed, ok, env, td, k, xr⟩ := u
  refine ⟨F, ρ, O, _, Ed, ok, env, td, fun b H1 F1 O1 e1 ok1 q1 => ?_, xr⟩
  cases b with
  | true => exact iteT ⟨F1, ρ, O1, Qd, Ed, ok1, env.mono e1, q1, fun b2 H2 F2 O2 e2 ok2 q2 => k b2 H2 F2 O2 (e1.trans e2) ok2 q2, xr.mono e1⟩
  | false => exact iteF (k _ _ _ _ e1 ok1 q1)
theorem dw_or (ha : DT X W a tA) (hb : DW X W (.BoolOp .Or (b :: rest) pos) tB) : DW X W (.BoolOp .Or (a :: b :: rest) pos) (dOr tA tB) := pw_imp (pw_or ha hb) fun σ H Q u => by
  obtain ⟨F, ρ, O, Qd, Ed, ok, env, td, k, xr⟩ := u
  refine ⟨F, ρ, O, _, Ed, ok, env, td, fun b H1 F1 O1 e1 ok1 q1 => ?_, xr⟩
  cases b with
  | false => exact iteF ⟨F1, ρ, O1, Qd, Ed, ok1, env.mono e1, q1, fun b2 H2 F2 O2 e2 ok2 q2 => k b2 H2 F2 O2 (e1.trans e2) ok2 q2, xr.mono e1⟩
  | true => exact iteT (k _ _ _ _ e1 ok1 q1)
theorem dt_w {t : TDT} (h : DW X W e t) : DT X W e t := h.pt
theorem dt_not (ha : DT X W a tA) : DT X W (.UnaryOp .Not a pos) (dNot tA) := pt_imp (pt_not ha) fun σ H Q u => by
  obtain ⟨F, ρ, O, Qd, Ed, ok, env, td, k, xr⟩ := u
  exact ⟨F, ρ, O, _, Ed, ok, env, td, fun b H1 F1 O1 e1 ok1 q1 => k _ _ _ _ e1 ok1 q1, xr⟩
/-! ### and, or, not of truths as values -/
def dAndV (ta tb : TD) : TD := fun ρ O Q E => ta ρ O (fun x O1 => match x with
  | .bl true => tb ρ O1 Q E
  | .bl false => Q (.bl false) O1
  | _ => False) E
def dOrV (ta tb : TD) : TD := fun ρ O Q E => ta ρ O (fun x O1 => match x with
  | .bl true => Q (.bl true) O1
  | .bl false => tb ρ O1 Q E
  | _ => False) E
def dNotV (ta : TD) : TD := fun ρ O Q E => ta ρ O (fun x O1 => match x with
  | .bl c => Q (.bl (!c)) O1
  | _ => False) E
theorem de_one {op} {t : TD} (h : DE X W a t) : DE X W (.BoolOp op [a] pos) t := pe_one h
theorem de_and (ha : DE X W a ta) (hb : DE X W (.BoolOp .And (b :: rest) pos) tb) : DE X W (.BoolOp .And (a :: b :: rest) pos) (dAndV ta tb) := pe_imp (pe_and ha hb) fun σ H Q u => by
  obtain ⟨F, ρ, O, Qd, Ed, ok, env, td, k, xr⟩ := u
  refine ⟨F, ρ, O, _, Ed, ok, env, td, fun v H1 F1 d O1 e1 r1 ok1 q1 => ?_, xr⟩
  split at q1
  · cases r1
    exact ⟨true, rfl, iteT ⟨F1, ρ, O1, Qd, Ed, ok1, env.mono e1, q1, fun v2 H2 F2 d2 O2 e2 r2 ok2 q2 => k v2 H2 F2 d2 O2 (e1.trans e2) r2 ok2 q2, xr.mono e1⟩⟩
  · cases r1
    exact ⟨false, rfl, iteF (k _ _ _ _ _ e1 (.bl false) ok1 q1)⟩
  · exact q1.elim
theorem de_or (ha : DE X W a ta) (hb : DE X W (.BoolOp .Or (b :: rest) pos) tb) : DE X W (.BoolOp .Or (a :: b :: rest) pos) (dOrV ta tb) := pe_imp (pe_or ha hb) fun σ H Q u => by
  obtain ⟨F, ρ, O, Qd, Ed, ok, env, td, k, xr⟩ := u
  refine ⟨F, ρ, O, _, Ed, ok, env, td, fun v H1 F1 d O1 e1 r1 ok1 q1 => ?_, xr⟩
  split at q1
  · cases r1
    exact ⟨true, rfl, iteT (k _ _ _ _ _ e1 (.bl true) ok1 q1)⟩
  · cases r1
    exact ⟨false, rfl, iteF ⟨F1, ρ, O1, Qd, Ed, ok1, env.mono e1, q1, fun v2 H2 F2 d2 O2 e2 r2 ok2 q2 => k v2 H2 F2 d2 O2 (e1.trans e2) r2 ok2 q2, xr.mono e1⟩⟩
  · exact q1.elim
theorem de_not (ha : DE X W a ta) : DE X W (.UnaryOp .Not a pos) (dNotV ta) := pe_imp (pe_not ha) fun σ H Q u => by
  obtain ⟨F, ρ, O, Qd, Ed, ok, env, td, k, xr⟩ := u
  refine ⟨F, ρ, O, _, Ed, ok, env, td, fun v H1 F1 d O1 e1 r1 ok1 q1 => ?_, xr⟩
  split at q1
  · cases r1
    exact ⟨_, rfl, k _ _ _ _ _ e1 (.bl _) ok1 q1⟩
  · exact q1.elim
def dIf (t : TDT) (ta tb : TD) : TD := fun ρ O Q E => t ρ O (fun c O1 => match c with
  | true => ta ρ O1 Q E
  | false => tb ρ O1 Q E) E
theorem de_if (hc : DT X W c tA) (ha : DE X W a ta) (hb : DE X W b tb) : DE X W (.IfExp c a b pos) (dIf tA ta tb) := pe_imp (pe_ifExp hc ha hb) fun σ H Q u => by
  obtain ⟨F, ρ, O, Qd, Ed, ok, env, td, k, xr⟩ := u
  refine ⟨F, ρ, O, _, Ed, ok, env, td, fun b H1 F1 O1 e1 ok1 q1 => ?_, xr⟩
  have go : ∀ t : TD, t ρ O1 Qd Ed → up X.K W t σ H1 Q := fun t q1 => ⟨F1, ρ, O1, Qd, Ed, ok1, env.mono e1, q1, fun v2 H2 F2 d2 O2 e2 r2 ok2 q2 => k v2 H2 F2 d2 O2 (e1.trans e2) r2 ok2 q2, xr.mono e1⟩
  cases b with
  | true => exact iteT (go _ q1)
  | false => exact iteF (go _ q1)
/-- a < b < c, ints or what the two rules take -/
def dChain (f f' : FD2) (ta tb tc : TD) : TD := fun ρ O Q E => ta ρ O (fun x O1 => tb ρ O1 (fun y O2 => f O2 x y fun z => match z with
  | .bl true => tc ρ O2 (fun w O3 => f' O3 y w fun z' => Q z' O3) E
  | .bl false => Q (.bl false) O2
  | _ => False) E) E
theorem up_chain {K : PySem.W.Frag} {r r' : R2} {f f' : FD2} (h : Op2 K r f) (h' : Op2 K r' f') : ∀ σ H Q, up K W (dChain f f' ta tb tc) σ H Q → tChain r r' (up K W ta) (up K W tb) (up K W tc) σ H Q := fun σ H Q u => by
  obtain ⟨F, ρ, O, Qd, Ed, ok, env, td, k, xr⟩ := u
  refine ⟨F, ρ, O, _, Ed, ok, env, td, fun v H1 F1 d O1 e1 r1 ok1 q1 => ?_, xr⟩
  refine ⟨F1, ρ, O1, _, Ed, ok1, env.mono e1, q1, fun v2 H2 F2 d2 O2 e2 r2 ok2 q2 => ?_, xr.mono e1⟩
  refine h H2 F2 O2 d d2 v v2 _ _ ok2 (r1.mono e2) r2 q2 fun v3 H3 F3 d3 e3 r3 ok3 q3 => ?_
  split at q3
  · cases r3
    refine ⟨true, rfl, iteT ⟨F3, ρ, O2, _, Ed, ok3, env.mono ((e1.trans e2).trans e3), q3, fun v4 H4 F4 d4 O4 e4 r4 ok4 q4 => ?_, xr.mono ((e1.trans e2).trans e3)⟩⟩
    exact h' H4 F4 O4 d2 d4 v2 v4 _ Q ok4 (r2.mono (e3.trans e4)) r4 q4 fun v5 H5 F5 d5 e5 r5 ok5 q5 => k v5 H5 F5 d5 O4 ((((e1.trans e2).trans e3).trans e4).trans e5) r5 ok5 q5
  · cases r3
    exact ⟨false, rfl, iteF (k _ _ _ _ _ ((e1.trans e2).trans e3) (.bl false) ok3 q3)⟩
  · exact q3.elim
theorem de_chain {op op' : CmpOp} {r r' : R2} {f f' : FD2} (ho : OpR X (compareOp op) r) (ho' : OpR X (compareOp op') r') (h : Op2 X.K r f) (h' : Op2 X.K r' f') (ha : DE X W a ta) (hb : DE X W b tb) (hc : DE X W c tc)
    (hm : lastMarks [op, op'] [b, c] = false := by with_unfolding_all rfl) : DE X W (.Compare a [op, op'] [b, c] pos) (dChain f f' ta tb tc) := pe_imp (pe_chain ho ho' ha hb hc hm) (up_chain h h')
/-! ### argument lists, displays -/
def dNil : TDA := fun _ O Q _ => Q [] O
def dCons (ta : TD) (tr : TDA) : TDA := fun ρ O Q E => ta ρ O (fun x O1 => tr ρ O1 (fun xs O2 => Q (x :: xs) O2) E) E
variable {es : List Expr} {tr : TDA}
theorem da_nil : DA X W [] dNil := pa_imp pa_nil fun σ H Q u => by
  obtain ⟨F, ρ, O, Qd, Ed, ok, env, td, k, xr⟩ := u
  exact k [] H F [] O (Same.refl F) .nil ok td
theorem da_cons (ha : DE X W e ta) (hr : DA X W es tr) (hs : starEach (e :: es) X.env = (false, eval e X.env) :: starEach es X.env := by rfl) : DA X W (e :: es) (dCons ta tr) := pa_imp (pa_cons ha hr hs) fun σ H Q u => by
  obtain ⟨F, ρ, O, Qd, Ed, ok, env, td, k, xr⟩ := u
  refine ⟨F, ρ, O, _, Ed, ok, env, td, fun v H1 F1 d O1 e1 r1 ok1 q1 => ?_, xr⟩
  exact ⟨F1, ρ, O1, _, Ed, ok1, env.mono e1, q1, fun vs H2 F2 ds O2 e2 r2 ok2 q2 => k _ H2 F2 _ O2 (e1.trans e2) (.cons (r1.mono e2) r2) ok2 q2, xr.mono e1⟩
def dTup (tr : TDA) : TD := fun ρ O Q E => tr ρ O (fun xs O1 => xs.length ≤ sizeLine ∧ Q (.tup xs) O1) E
def dLst (tr : TDA) : TD := fun ρ O Q E => tr ρ O (fun xs O1 => xs.length ≤ sizeLine ∧ Q (.lst xs) O1) E
/-- a list that will change -/
def dLstM (tr : TDA) : TD := fun ρ O Q E => tr ρ O (fun xs O1 => xs.length ≤ sizeLine ∧ ∀ a, O1 a = none → Q (.ref a) (updO O1 a (.lst xs))) E
theorem de_tup {x1} (h : DA X W es tr) : DE X W (.Tuple es x1 pos) (dTup tr) := pe_imp (pe_tup h) fun σ H Q u => by
  obtain ⟨F, ρ, O, Qd, Ed, ok, env, td, k, xr⟩ := u
  refine ⟨F, ρ, O, _, Ed, ok, env, td, fun vs H1 F1 ds O1 e1 r1 ok1 ⟨hl, q1⟩ => ⟨by rw [← r1.length]; exact hl, fun p hp => ?_⟩, xr⟩
  obtain ⟨ok2, e2⟩ := ok1.lay hp (.tup vs)
  exact k _ _ _ _ O1 (e1.trans e2) (.tup (.inl (.inl upd_same)) (r1.mono e2)) ok2 q1
theorem de_lst (h : DA X W es tr) : DE X W (.List es pos) (dLst tr) := pe_imp (pe_lst h) fun σ H Q u => by
  obtain ⟨F, ρ, O, Qd, Ed, ok, env, td, k, xr⟩ := u
  refine ⟨F, ρ, O, _, Ed, ok, env, td, fun vs H1 F1 ds O1 e1 r1 ok1 ⟨hl, q1⟩ => ⟨by rw [← r1.length]; exact hl, fun p hp => ?_⟩, xr⟩
  obtain ⟨ok2, e2⟩ := ok1.lay hp (.lst vs)
  exact k _ _ _ _ O1 (e1.trans e2) (.lst upd_same (r1.mono e2)) ok2 q1
theorem de_lstM (h : DA X W es tr) : DE X W (.List es pos) (dLstM tr) := pe_imp (pe_lst h) fun σ H Q u => by
  obtain ⟨F, ρ, O, Qd, Ed, ok, env, td, k, xr⟩ := u
  refine ⟨F, ρ, O, _, Ed, ok, env, td, fun vs H1 F1 ds O1 e1 r1 ok1 ⟨hl, q1⟩ => ⟨by rw [← r1.length]; exact hl, fun p hp => ?_⟩, xr⟩
  exact k _ _ F1 _ _ e1 (.ref p) (ok1.layM (m := .lst ds) hp ⟨vs, upd_same, r1⟩) (q1 p (ok1.freeO hp))
/-- {} -/
def dDic0 : TD := fun _ O Q _ => Q (.dic []) O
def dDic0M : TD := fun _ O Q _ => ∀ a, O a = none → Q (.ref a) (updO O a (.dic []))
theorem de_dic0 : DE X W (.Dict [] [] pos) dDic0 := pe_imp pe_dnewK fun σ H Q u => by
  obtain ⟨F, ρ, O, Qd, Ed, ok, env, td, k, xr⟩ := u
  intro p hp
  obtain ⟨ok2, e2⟩ := ok.lay hp (.dK [])
  exact k _ _ _ _ O e2 (.dic upd_same .nil) ok2 td
theorem de_dic0M : DE X W (.Dict [] [] pos) dDic0M := pe_imp pe_dnewK fun σ H Q u => by
  obtain ⟨F, ρ, O, Qd, Ed, ok, env, td, k, xr⟩ := u
  intro p hp
  exact k _ _ F _ _ (Same.refl F) (.ref p) (ok.layM (m := .dic []) hp ⟨[], upd_same, .nil⟩) (td p (ok.freeO hp))
def keyD : D → Option Key
  | .int i => some (.inl i)
  | .str x => some (.inr x)
  | _ => none
theorem keyD_rep {K : PySem.W.Frag} {F : Hp} {d : D} {v : V} (r : Rep K F d v) {k : Key} (h : keyD d = some k) : v = kV k := by
  cases r with
  | int i => cases h; rfl
  | str i => cases h; rfl
  | _ => cases h
/-- {k: v} -/
def dDic1 (tk tv : TD) : TD := fun ρ O Q E => ∀ a, O a = none → tk ρ (updO O a (.dic [])) (fun x O1 => tv ρ O1 (fun y O2 => O2 a = some (.dic []) ∧ ∃ k O3, keyD x = some k ∧ Sub O3 O2 ∧ O3 a = none ∧ Q (.dic [(k, y)]) O3) E) E
theorem de_dic1 {tk tv : TD} (hk : DE X W a tk) (hv : DE X W b tv) : DE X W (.Dict [some a] [b] pos) (dDic1 tk tv) := pe_imp (pe_disp (pps_cons hk hv pps_nil) rfl rfl (fun z => by cases z) (by show 1 ≤ 15; decide)) fun σ H Q u => by
  obtain ⟨F, ρ, O, Qd, Ed, ok, env, td, k, xr⟩ := u
  intro p hp
  have okp : OkS X.K (upd H p (.dK [])) F (updO O p (.dic [])) := ok.layM hp ⟨[], upd_same, .nil⟩
  refine ⟨F, ρ, _, _, Ed, okp, env, td p (ok.freeO hp), fun v1 H1 F1 d1 O1 e1 r1 ok1 q1 => ?_, xr⟩
  refine ⟨F1, ρ, O1, _, Ed, ok1, env.mono e1, q1, fun v2 H2 F2 d2 O2 e2 r2 ok2 ⟨h1, kk, O3, h2, h3, h4, q2⟩ => ?_, xr.mono e1⟩
  obtain ⟨fp, kvs, hH, rk⟩ := ok2.own p _ h1
  cases rk
  refine ⟨hH, [(kk, v2)], ?_, (by show 1 ≤ 15; decide), ?_⟩
  · rw [keyD_rep r1 h2]; rfl
  have e3 : Same F2 (upd F2 p (.dK [(kk, v2)])) := fun b u h => by rw [upd_ne (ne_of_none h fp)]; exact h
  refine k _ _ (upd F2 p (.dK [(kk, v2)])) _ O3 ((e1.trans e2).trans e3) (.dic upd_same (.cons (r2.mono e3) .nil)) ⟨fun b u h => ?_, fun b m h => ?_⟩ q2
  · show upd H2 p _ b = _
    by_cases hb : b = p
    · subst hb; rw [upd_same] at h ⊢; exact h
    · rw [upd_ne hb] at h ⊢; exact ok2.ex b u h
  · have ne : b ≠ p := fun z => by rw [z, h4] at h; cases h
    obtain ⟨g1, g2⟩ := ok2.own b m (h3 b m h)
    exact ⟨by rw [upd_ne ne]; exact g1, g2.mono e3 (upd_ne ne)⟩
end
end Dx
namespace Dx
open PySem L2
section
variable {K : PySem.W.Frag}
/-- a list that stands in the tracked heap -/
def trkD (O : DH) : D → Option (List D)
  | .lst ds => some ds
  | .ref a => match O a with
    | some (.lst ds) => some ds
    | _ => none
  | _ => none
theorem trkD_rep {H F : Hp} {O : DH} (k : OkS K H F O) {d : D} {v : V} (r : Rep K F d v) {ds : List D} (h : trkD O d = some ds) : ∃ a xs, v = .ref a ∧ H a = some (.lst xs) ∧ RepA K F ds xs := by
  cases r with
  | lst h1 h2 => cases h; exact ⟨_, _, rfl, k.ex _ _ h1, h2⟩
  | ref a =>
    unfold trkD at h
    simp only at h
    split at h
    · next ds' e =>
      cases h
      obtain ⟨xs, h1, h2⟩ := k.lst e
      exact ⟨a, xs, rfl, h1, h2⟩
    · cases h
  | _ => cases h
/-! ### operators, one rule for all kinds -/
def fAdd : FD2 := fun O x y Q => match x, y with
  | .int i, .int j => Q (.int (i + j))
  | .str a, .str b => a.length + b.length ≤ sizeLine ∧ Q (.str (a ++ b))
  | .tup a, .tup b => a.length + b.length ≤ sizeLine ∧ Q (.tup (a ++ b))
  | x, y => match trkD O x, trkD O y with
    | some a, some b => a.length + b.length ≤ sizeLine ∧ Q (.lst (a ++ b))
    | _, _ => False
abbrev rAdd4 (K : PySem.W.Frag) : R2 := fun x y H Q => rI0 (fun i j => .int (i + j)) x y H Q ∨ (∃ i j, x = .str i ∧ y = .str j ∧ i.length + j.length ≤ sizeLine ∧ Q (.str (i ++ j)) H) ∨ rCatA K x y H Q ∨ rCat x y H Q
theorem op_add4 {X : Cx} : OpR X (binaryOp .Add) (rAdd4 X.K) := op_add.or (op_add_str.or (op_catA.or op_cat))
theorem RepA.nil_iff {F : Hp} {ds : List D} {xs : List V} (r : RepA K F ds xs) : ds = [] ↔ xs = [] := by cases r <;> simp
theorem o2_add : Op2 K (rAdd4 K) fAdd := fun H F O dx dy x y Qd Q ok rx ry q k => by
  unfold fAdd at q
  split at q
  · cases rx; cases ry
    exact .inl ⟨_, _, rfl, rfl, k _ H F _ (Same.refl F) (.int _) ok q⟩
  · cases rx; cases ry
    exact .inr (.inl ⟨_, _, rfl, rfl, q.1, k _ H F _ (Same.refl F) (.str _) ok q.2⟩)
  · cases rx with
    | tup h1 h2 =>
      cases ry with
      | tup h3 h4 =>
        refine .inr (.inr (.inl ?_))
        refine ⟨_, _, _, _, rfl, rfl, same_sqt ok.ex h1, same_sqt ok.ex h3, by rw [← h2.length, ← h4.length]; exact q.1, ?_⟩
        have fin : ∀ v, Rep K F (.tup _) v → Q v H := fun v r => k v H F _ (Same.refl F) r ok q.2
        refine ⟨fun e1 => ?_, fun e1 e2 => ?_, fun e1 e2 p hp => ?_⟩
        · have := h2.nil_iff.mpr e1; subst this; exact fin _ (.tup h3 h4)
        · have := h4.nil_iff.mpr e2; subst this; exact fin _ (by rw [List.append_nil]; exact .tup h1 h2)
        · obtain ⟨ok2, e⟩ := ok.lay hp (.tup _)
          exact k _ _ _ _ e (.tup (.inl (.inl upd_same)) ((h2.append h4).mono e)) ok2 q.2
  · split at q
    · next e1 e2 =>
      obtain ⟨a, xs, rfl, h1, h2⟩ := trkD_rep ok rx e1
      obtain ⟨b, ys, rfl, h3, h4⟩ := trkD_rep ok ry e2
      refine .inr (.inr (.inr ⟨_, _, _, _, rfl, rfl, h1, h3, by rw [← h2.length, ← h4.length]; exact q.1, fun p hp => ?_⟩))
      obtain ⟨ok2, e⟩ := ok.lay hp (.lst _)
      exact k _ _ _ _ e (.lst upd_same ((h2.append h4).mono e)) ok2 q.2
    · exact q.elim
def fSub : FD2 := fI0 fun i j => .int (i - j)
theorem o2_sub : Op2 K (rI0 fun i j => .int (i - j)) fSub := o2_I0 fun _ _ _ => .int _
def fMulI : FD2 := fI CMulW fun i j => .int (i * j)
theorem o2_mulI : Op2 K (rI CMulW fun i j => .int (i * j)) fMulI := o2_I fun _ _ _ => .int _
def CM (i j : Int) : Prop := CMul i j ∨ CMulW i j
theorem op_mulCM {X : Cx} : OpR X (binaryOp .Mult) (rI CM fun i j => .int (i * j)) := fun pins s σ H x y v u Q I rx ry h => by
  obtain ⟨i, j, e1, e2, c, q⟩ := h
  rcases c with c | c
  · exact op_mul pins s σ H x y v u Q I rx ry ⟨i, j, e1, e2, c, q⟩
  · exact op_mulW pins s σ H x y v u Q I rx ry ⟨i, j, e1, e2, c, q⟩
def repD (n : Nat) (ds : List D) : List D := (List.replicate n ds).flatten
theorem RepA.rep {F : Hp} {ds : List D} {xs : List V} (r : RepA K F ds xs) : ∀ n, RepA K F (repD n ds) (List.replicate n xs).flatten
  | 0 => .nil
  | n + 1 => by
    unfold repD
    rw [List.replicate_succ, List.replicate_succ, List.flatten_cons, List.flatten_cons]
    exact r.append (RepA.rep r n)
/-- a list, a text, an int times an int -/
def fMul : FD2 := fun O x y Q => match y with
  | .int j => match x with
    | .int i => CM i j ∧ Q (.int (i * j))
    | .str a => MulOk a j ∧ Q (.str (PySem.Txt.mul a j))
    | x => match trkD O x with
      | some ds => -(2 ^ 63) ≤ j ∧ j < 2 ^ 63 ∧ ds.length * j.toNat ≤ sizeLine ∧ Q (.lst (repD j.toNat ds))
      | none => False
  | _ => False
abbrev rMul3 : R2 := fun x y H Q => rI CM (fun i j => .int (i * j)) x y H Q ∨ (∃ a j, x = .str a ∧ y = .int j ∧ MulOk a j ∧ Q (.str (PySem.Txt.mul a j)) H) ∨ rRep x y H Q
theorem op_mulS {X : Cx} : OpR X (binaryOp .Mult) (fun x y H Q => ∃ a j, x = .str a ∧ y = .int j ∧ MulOk a j ∧ Q (.str (PySem.Txt.mul a j)) H) := by
  intro pins s σ H x y v u Q I rx ry h
  obtain ⟨a, j, rfl, rfl, hz, q⟩ := h
  obtain ⟨t, rfl⟩ := rx
  obtain ⟨t', rfl⟩ := ry
  exact PySem.SB.mul hz fun t2 k => ⟨.str _, H, I.tok _, ⟨_, rfl⟩, q⟩
theorem op_mul3 {X : Cx} : OpR X (binaryOp .Mult) rMul3 := op_mulCM.or (op_mulS.or op_rep)
theorem o2_mul : Op2 K rMul3 fMul := fun H F O dx dy x y Qd Q ok rx ry q k => by
  unfold fMul at q
  split at q
  · cases ry
    split at q
    · cases rx
      exact .inl ⟨_, _, rfl, rfl, q.1, k _ H F _ (Same.refl F) (.int _) ok q.2⟩
    · cases rx
      exact .inr (.inl ⟨_, _, rfl, rfl, q.1, k _ H F _ (Same.refl F) (.str _) ok q.2⟩)
    · split at q
      · next e1 =>
        obtain ⟨a, xs, rfl, h1, h2⟩ := trkD_rep ok rx e1
        refine .inr (.inr ⟨_, _, _, rfl, rfl, h1, q.1, q.2.1, by rw [← h2.length]; exact q.2.2.1, fun p hp => ?_⟩)
        obtain ⟨ok2, e⟩ := ok.lay hp (.lst _)
        exact k _ _ _ _ e (.lst upd_same ((h2.rep _).mono e)) ok2 q.2.2.2
      · exact q.elim
  · exact q.elim
/-- %, // by a number that is not 0 -/
def fMod : FD2 := fI (fun _ j => j ≠ 0) fun i j => .int (i.fmod j)
theorem o2_mod : Op2 K (rI (fun _ j => j ≠ 0) fun i j => .int (i.fmod j)) fMod := o2_I fun _ _ _ => .int _
abbrev CFd (i j : Int) : Prop := CDivN i j ∨ CDivW i j
abbrev rFd : R2 := fun x y H Q => rI CDivN (fun i j => .int (i.fdiv j)) x y H Q ∨ rI CDivW (fun i j => .int (i / j)) x y H Q
theorem op_fd {X : Cx} : OpR X (binaryOp .FloorDiv) rFd := op_fdivN.or op_fdivW
def fFd : FD2 := fI CFd fun i j => .int (i.fdiv j)
theorem o2_fd : Op2 K rFd fFd := fun H F O dx dy x y Qd Q ok rx ry q k => by
  unfold fFd fI at q
  split at q
  · next i j =>
    cases rx; cases ry
    rcases q.1 with c | c
    · exact .inl ⟨_, _, rfl, rfl, c, k _ H F _ (Same.refl F) (.int _) ok q.2⟩
    · refine .inr ⟨_, _, rfl, rfl, c, ?_⟩
      show Q (.int (i / j)) H
      rw [← Int.fdiv_eq_ediv_of_nonneg _ (Int.le_of_lt c.1)]
      exact k _ H F _ (Same.refl F) (.int _) ok q.2
  · exact q.elim
def fPow : FD2 := fI CPow fun i j => .int (i ^ j.toNat)
theorem o2_pow : Op2 K (rI CPow fun i j => .int (i ^ j.toNat)) fPow := o2_I fun _ _ _ => .int _
def fNeg : D → (D → Prop) → Prop := fU fun i => .int (-i)
theorem o1_neg : Op1 K (rU fun i => .int (-i)) fNeg := o1_U fun _ _ => .int _
/-! ### comparisons of ints -/
def fLt : FD2 := fI0 fun i j => .bl (decide (i < j))
def fLe : FD2 := fI0 fun i j => .bl (decide (i ≤ j))
def fGt : FD2 := fI0 fun i j => .bl (decide (j < i))
def fGe : FD2 := fI0 fun i j => .bl (decide (j ≤ i))
theorem o2_lt : Op2 K (rI0 fun i j => .bl (decide (i < j))) fLt := o2_I0 fun _ _ _ => .bl _
theorem o2_le : Op2 K (rI0 fun i j => .bl (decide (i ≤ j))) fLe := o2_I0 fun _ _ _ => .bl _
theorem o2_gt : Op2 K (rI0 fun i j => .bl (decide (j < i))) fGt := o2_I0 fun _ _ _ => .bl _
theorem o2_ge : Op2 K (rI0 fun i j => .bl (decide (j ≤ i))) fGe := o2_I0 fun _ _ _ => .bl _
end
/-! ### slices -/
abbrev TDO := DEnv → DH → (Option Int → DH → Prop) → XD → Prop
def upO (K : PySem.W.Frag) (W : WX) (td : TDO) : TO := fun σ H Q => ∃ F ρ O Qd Ed, OkS K H F O ∧ EnvOk K F σ ρ ∧ td ρ O Qd Ed ∧ (∀ b H' F' O', Same F F' → OkS K H' F' O' → Qd b O' → Q b H') ∧ XRel K W F σ Ed
abbrev DO (X : Cx) (W : WX) (e : Option Expr) (td : TDO) : Prop := PO X e (upO X.K W td)
theorem po_imp {X : Cx} {e : Option Expr} {te te' : TO} (h : PO X e te) (i : ∀ σ H Q, te' σ H Q → te σ H Q) : PO X e te' := ⟨fun pins s σ H Q I hw => h.run pins s σ H Q I (i σ H Q hw)⟩
def dNoP : TDO := fun _ O Q _ => Q none O
def dPart (t : TD) : TDO := fun ρ O Q E => t ρ O (fun d O1 => match d with
  | .int i => Q (some i) O1
  | _ => False) E
section
variable {X : Cx} {W : WX} {e : Expr} {ta : TD} {tl th : TDO} {lo hi : Option Expr} {pos p2 : Pos}
theorem do_none : DO X W none dNoP := po_imp po_none fun σ H Q u => by
  obtain ⟨F, ρ, O, Qd, Ed, ok, env, td, k, xr⟩ := u
  exact k _ H F O (Same.refl F) ok td
theorem do_some (h : DE X W e ta) : DO X W (some e) (dPart ta) := po_imp (po_some h) fun σ H Q u => by
  obtain ⟨F, ρ, O, Qd, Ed, ok, env, td, k, xr⟩ := u
  refine ⟨F, ρ, O, _, Ed, ok, env, td, fun v H1 F1 d O1 e1 r1 ok1 q1 => ?_, xr⟩
  split at q1
  · cases r1
    exact ⟨_, rfl, k _ H1 F1 O1 e1 ok1 q1⟩
  · exact q1.elim
def cutD (ds : List D) (lo hi : Option Int) : List D := (ds.drop (HT.sIx ds.length 0 lo)).take (HT.sIx ds.length ds.length hi - HT.sIx ds.length 0 lo)
theorem RepA.cut {K : PySem.W.Frag} {F : Hp} {ds : List D} {xs : List V} (r : RepA K F ds xs) (lo hi : Option Int) : RepA K F (cutD ds lo hi) (cutV xs lo hi) := by
  unfold cutD cutV
  rw [← r.length]
  exact (r.drop _).take _
theorem cut_whole {ds : List D} {lo hi : Option Int} (h : HT.sIx ds.length 0 lo = 0 ∧ HT.sIx ds.length ds.length hi = ds.length) : cutD ds lo hi = ds := by
  unfold cutD
  rw [h.1, h.2]
  simp
def fSl (O : DH) (x : D) (lo hi : Option Int) (Q : D → Prop) : Prop := match x with
  | .str z => z.length ≤ sizeLine ∧ Q (.str (cutS z lo hi))
  | .tup ds => Q (.tup (cutD ds lo hi))
  | x => match itemsL O x with
    | some ds => Q (.lst (cutD ds lo hi))
    | none => False
def dSl (ta : TD) (tl th : TDO) : TD := fun ρ O Q E => ta ρ O (fun x O1 => tl ρ O1 (fun l O2 => th ρ O2 (fun h O3 => fSl O3 x l h fun z => Q z O3) E) E) E
abbrev rSl3 (K : PySem.W.Frag) : V → Option Int → Option Int → Hp → VK → Prop := fun x lo hi H Q => rSlS x lo hi H Q ∨ rSlA K x lo hi H Q ∨ rSlL K x lo hi H Q
theorem de_sl (he : DE X W e ta) (hl : DO X W lo tl) (hh : DO X W hi th) : DE X W (.Subscript e (.Slice lo hi none p2) pos) (dSl ta tl th) :=
  pe_imp (pe_slice (r := rSl3 X.K) (sl_str.or (sl_tupA.or sl_list)) he hl hh) fun σ H Q u => by
    obtain ⟨F, ρ, O, Qd, Ed, ok, env, td, k, xr⟩ := u
    refine ⟨F, ρ, O, _, Ed, ok, env, td, fun v H1 F1 d O1 e1 r1 ok1 q1 => ?_, xr⟩
    refine ⟨F1, ρ, O1, _, Ed, ok1, env.mono e1, q1, fun l H2 F2 O2 e2 ok2 q2 => ?_, xr.mono e1⟩
    refine ⟨F2, ρ, O2, _, Ed, ok2, env.mono (e1.trans e2), q2, fun h H3 F3 O3 e3 ok3 q3 => ?_, xr.mono (e1.trans e2)⟩
    have r3 := r1.mono (e2.trans e3)
    have e := (e1.trans e2).trans e3
    unfold fSl at q3
    split at q3
    · cases r3
      exact .inl ⟨_, rfl, q3.1, k _ H3 F3 _ O3 e (.str _) ok3 q3.2⟩
    · cases r3 with
      | tup h1 h2 =>
        refine .inr (.inl ⟨_, _, rfl, same_sqt ok3.ex h1, fun hw => ?_, fun hw p hp => ?_⟩)
        · rw [← h2.length] at hw
          rw [cut_whole hw] at q3
          exact k _ H3 F3 _ O3 e (.tup h1 h2) ok3 q3
        · obtain ⟨ok4, e4⟩ := ok3.lay hp (.tup _)
          exact k _ _ _ _ O3 (e.trans e4) (.tup (.inl (.inl upd_same)) ((h2.cut l h).mono e4)) ok4 q3
    · split at q3
      · next e1 =>
        obtain ⟨a, xs, rfl, h1, h2⟩ := itemsL_rep ok3 r3 e1
        refine .inr (.inr ⟨_, _, rfl, h1, fun p hp => ?_⟩)
        obtain ⟨ok4, e4⟩ := ok3.lay hp (.lst _)
        exact k _ _ _ _ O3 (e.trans e4) (.lst upd_same ((h2.cut l h).mono e4)) ok4 q3
      · exact q3.elim
/-! ### calls of built-ins -/
abbrev FC := DH → List D → (D → Prop) → Prop
def dCB (f : FC) (tr : TDA) : TD := fun ρ O Q E => tr ρ O (fun ds O1 => f O1 ds fun z => Q z O1) E
def CallD (K : PySem.W.Frag) (r : List V → Hp → VK → Prop) (f : FC) : Prop := ∀ (H F : Hp) (O : DH) (ds : List D) (vs : List V) (Qd : D → Prop) (Q : VK), OkS K H F O → RepA K F ds vs → f O ds Qd →
  (∀ v H' F' d, Same F F' → Rep K F' d v → OkS K H' F' O → Qd d → Q v H') → r vs H Q
theorem up_cb {K : PySem.W.Frag} {r : List V → Hp → VK → Prop} {f : FC} {tr : TDA} (h : CallD K r f) : ∀ σ H Q, up K W (dCB f tr) σ H Q → tCB r (upA K W tr) σ H Q := fun σ H Q u => by
  obtain ⟨F, ρ, O, Qd, Ed, ok, env, td, k, xr⟩ := u
  refine ⟨F, ρ, O, _, Ed, ok, env, td, fun vs H1 F1 ds O1 e1 r1 ok1 q1 => ?_, xr⟩
  exact h H1 F1 O1 ds vs _ Q ok1 r1 q1 fun v H2 F2 d e2 r2 ok2 q2 => k v H2 F2 d O1 (e1.trans e2) r2 ok2 q2
variable {x : Str} {id T : String} {r : List V → Hp → VK → Prop} {f : FC} {tr : TDA} {es : List Expr} {p : Pos}
theorem de_cb (hc : CallR X (.builtin id) r) (h : CallD X.K r f) (hg : Gl X x) (hm : X.mg x = none) (hv : bootBuiltins x = some (.builtin id)) (ha : DA X W (e :: es) tr) (hn : x ≠ "__name__" := by decide) (hdb : (x == ("__debug__" : Str)) = false := by decide)
    (he : starEach (e :: es) X.env = (false, eval e X.env) :: starEach es X.env := by rfl) (hpl : (backTo pos (starEach es X.env)).any (·.1) = false := by rfl) : DE X W (.Call (.Name x p) (e :: es) [] pos) (dCB f tr) :=
  pe_imp (pe_callB hc hg hm hv ha hn hdb he hpl) (up_cb h)
theorem de_ct (hc : CallR X (.type T) r) (h : CallD X.K r f) (hg : Gl X x) (hm : X.mg x = none) (hv : bootBuiltins x = some (.type T)) (ha : DA X W (e :: es) tr) (hn : x ≠ "__name__" := by decide) (hdb : (x == ("__debug__" : Str)) = false := by decide)
    (he : starEach (e :: es) X.env = (false, eval e X.env) :: starEach es X.env := by rfl) (hpl : (backTo pos (starEach es X.env)).any (·.1) = false := by rfl) : DE X W (.Call (.Name x p) (e :: es) [] pos) (dCB f tr) :=
  pe_imp (pe_callTy hc hg hm hv ha hn hdb he hpl) (up_cb h)
end
section
variable {K : PySem.W.Frag} {X : Cx}
/-! #### len, int, bool, abs, str, tuple, list, max, min -/
def lenD (O : DH) : D → Option Nat
  | .str z => if z.length ≤ sizeLine then some z.length else none
  | .dic ks => some ks.length
  | d => (items O d).map List.length
def fLen : FC := fun O ds Q => match ds with
  | [x] => match lenD O x with
    | some n => Q (.int n)
    | none => False
  | _ => False
theorem RepK.length {F : Hp} : ∀ {ds : List (Key × D)} {vs : List (Key × V)}, RepK K F ds vs → ds.length = vs.length
  | _, _, .nil => rfl
  | _, _, .cons _ r => by rw [List.length_cons, List.length_cons, RepK.length r]
abbrev rLen3 (K : PySem.W.Frag) : List V → Hp → VK → Prop := fun xs H Q => (∃ x n, xs = [x] ∧ LenV K x H n ∧ Q (.int n) H) ∨ (∃ d kvs, xs = [.ref d] ∧ H d = some (.dK kvs) ∧ Q (.int kvs.length) H)
theorem RepA.one {F : Hp} {x : D} {vs : List V} (r : RepA K F [x] vs) : ∃ v, vs = [v] ∧ Rep K F x v := by
  cases r with
  | cons h t => cases t; exact ⟨_, rfl, h⟩
theorem RepA.two {F : Hp} {x y : D} {vs : List V} (r : RepA K F [x, y] vs) : ∃ v w, vs = [v, w] ∧ Rep K F x v ∧ Rep K F y w := by
  cases r with
  | cons h t => obtain ⟨w, rfl, h2⟩ := t.one; exact ⟨_, _, rfl, h, h2⟩
theorem cd_len : CallD K (rLen3 K) fLen := fun H F O ds vs Qd Q ok ra q k => by
  unfold fLen at q
  split at q
  · next x =>
    obtain ⟨v, rfl, r⟩ := ra.one
    split at q
    · next n hn =>
      have fin : Q (.int n) H := k _ H F _ (Same.refl F) (.int _) ok q
      have gen : (items O x).map List.length = some n → rLen3 K [v] H Q := fun h => by
        cases hi : items O x with
        | none => rw [hi] at h; cases h
        | some ds =>
          rw [hi] at h
          obtain rfl : ds.length = n := Option.some.inj h
          obtain ⟨a, xs, rfl, hs, ra⟩ := items_rep ok r hi
          refine .inl ⟨.ref a, xs.length, rfl, ?_, by rw [← ra.length]; exact fin⟩
          rcases hs with hs | hs
          · exact .inl ⟨xs, hs, rfl⟩
          · exact .inr ⟨xs, hs, rfl⟩
      cases r with
      | str z =>
        have hn' : (if z.length ≤ sizeLine then some z.length else none) = some n := hn
        by_cases hz : z.length ≤ sizeLine
        · rw [if_pos hz] at hn'; cases hn'
          exact .inl ⟨.str z, _, rfl, ⟨hz, rfl⟩, fin⟩
        · rw [if_neg hz] at hn'; cases hn'
      | dic h1 h2 =>
        obtain rfl : _ = n := Option.some.inj hn
        exact .inr ⟨_, _, rfl, ok.ex _ _ h1, by rw [← h2.length]; exact fin⟩
      | _ => exact gen hn
    · exact q.elim
  · exact q.elim
def fInt : FC := fun _ ds Q => match ds with
  | [.int i] => Q (.int i)
  | [.bl b] => Q (.int (if b then 1 else 0))
  | _ => False
theorem cd_int : CallD K (fun xs H Q => (∃ i, xs = [.int i] ∧ Q (.int i) H) ∨ ∃ k, xs = [.bl k] ∧ Q (.int (if k then 1 else 0)) H) fInt := fun H F O ds vs Qd Q ok ra q k => by
  unfold fInt at q
  split at q
  · obtain ⟨v, rfl, r⟩ := ra.one
    cases r
    exact .inl ⟨_, rfl, k _ H F _ (Same.refl F) (.int _) ok q⟩
  · obtain ⟨v, rfl, r⟩ := ra.one
    cases r
    exact .inr ⟨_, rfl, k _ H F _ (Same.refl F) (.int _) ok q⟩
  · exact q.elim
def fAbs : FC := fun _ ds Q => match ds with
  | [.int i] => Q (.int (if i < 0 then -i else i))
  | _ => False
theorem cd_abs : CallD K (fun xs H Q => ∃ i, xs = [.int i] ∧ Q (.int (if i < 0 then -i else i)) H) fAbs := fun H F O ds vs Qd Q ok ra q k => by
  unfold fAbs at q
  split at q
  · obtain ⟨v, rfl, r⟩ := ra.one
    cases r
    exact ⟨_, rfl, k _ H F _ (Same.refl F) (.int _) ok q⟩
  · exact q.elim
def fMax2 : FC := fun _ ds Q => match ds with
  | [.int i, .int j] => Q (.int (if j > i then j else i))
  | _ => False
theorem cd_max2 : CallD K (fun xs H Q => ∃ i j, xs = [.int i, .int j] ∧ Q (.int (if j > i then j else i)) H) fMax2 := fun H F O ds vs Qd Q ok ra q k => by
  unfold fMax2 at q
  split at q
  · obtain ⟨v, w, rfl, r, r2⟩ := ra.two
    cases r; cases r2
    exact ⟨_, _, rfl, k _ H F _ (Same.refl F) (.int _) ok q⟩
  · exact q.elim
def fMin2 : FC := fun _ ds Q => match ds with
  | [.int i, .int j] => Q (.int (if j < i then j else i))
  | _ => False
theorem cd_min2 : CallD K (fun xs H Q => ∃ i j, xs = [.int i, .int j] ∧ Q (.int (if j < i then j else i)) H) fMin2 := fun H F O ds vs Qd Q ok ra q k => by
  unfold fMin2 at q
  split at q
  · obtain ⟨v, w, rfl, r, r2⟩ := ra.two
    cases r; cases r2
    exact ⟨_, _, rfl, k _ H F _ (Same.refl F) (.int _) ok q⟩
  · exact q.elim
def fStr : FC := fun _ ds Q => match ds with
  | [.int i] => i.natAbs.log2 < 1920 ∧ Q (.str (toString i))
  | [.str x] => Q (.str x)
  | _ => False
theorem call_str2 : CallR X (.type "str") (fun xs H Q => (∃ i, xs = [.int i] ∧ i.natAbs.log2 < 1920 ∧ Q (.str (toString i)) H) ∨ (∃ a, xs = [.str a] ∧ Q (.str a) H)) := call_str_int.or SkE.call_str_str
theorem cd_str : CallD K (fun xs H Q => (∃ i, xs = [.int i] ∧ i.natAbs.log2 < 1920 ∧ Q (.str (toString i)) H) ∨ (∃ a, xs = [.str a] ∧ Q (.str a) H)) fStr := fun H F O ds vs Qd Q ok ra q k => by
  unfold fStr at q
  split at q
  · obtain ⟨v, rfl, r⟩ := ra.one
    cases r
    exact .inl ⟨_, rfl, q.1, k _ H F _ (Same.refl F) (.str _) ok q.2⟩
  · obtain ⟨v, rfl, r⟩ := ra.one
    cases r
    exact .inr ⟨_, rfl, k _ H F _ (Same.refl F) (.str _) ok q⟩
  · exact q.elim
def fTuple : FC := fun O ds Q => match ds with
  | [x] => match items O x with
    | some ds => Q (.tup ds)
    | none => False
  | _ => False
theorem cd_tuple : CallD K (fun xs H Q => ∃ p ys, xs = [.ref p] ∧ ((SqL K H p ys ∧ ∀ l, H l = none → Q (.ref l) (upd H l (.tup ys))) ∨ (SqT K H p ys ∧ Q (.ref p) H))) fTuple := fun H F O ds vs Qd Q ok ra q k => by
  unfold fTuple at q
  split at q
  · obtain ⟨v, rfl, r⟩ := ra.one
    clear ra
    split at q
    · next es he =>
      have byL : ∀ a xs, v = .ref a → SqL K H a xs → RepA K F es xs → ∃ p ys, [v] = [V.ref p] ∧ ((SqL K H p ys ∧ ∀ l, H l = none → Q (.ref l) (upd H l (.tup ys))) ∨ (SqT K H p ys ∧ Q (.ref p) H)) := fun a xs e hs ra => by
        subst e
        refine ⟨a, xs, rfl, .inl ⟨hs, fun l hl => ?_⟩⟩
        obtain ⟨ok2, e2⟩ := ok.lay hl (.tup xs)
        exact k _ _ _ _ e2 (.tup (.inl (.inl upd_same)) (ra.mono e2)) ok2 q
      cases r with
      | tup h1 h2 =>
        obtain rfl := Option.some.inj he
        exact ⟨_, _, rfl, .inr ⟨same_sqt ok.ex h1, k _ H F _ (Same.refl F) (.tup h1 h2) ok q⟩⟩
      | lst h1 h2 => obtain ⟨a, xs, e, hs, ra⟩ := itemsL_rep ok (.lst h1 h2) he; exact byL a xs e hs ra
      | wl h1 h2 => obtain ⟨a, xs, e, hs, ra⟩ := itemsL_rep ok (.wl h1 h2) he; exact byL a xs e hs ra
      | ref b => obtain ⟨a, xs, e, hs, ra⟩ := itemsL_rep ok (.ref b) he; exact byL a xs e hs ra
      | _ => cases he
    · exact q.elim
  · exact q.elim
/-- list(x), told as what it holds -/
def fList : FC := fun O ds Q => match ds with
  | [x] => match items O x with
    | some ds => Q (.lst ds)
    | none => False
  | _ => False
theorem cd_list : CallD K (fun xs H Q => ∃ p ys, xs = [.ref p] ∧ (SqL K H p ys ∨ SqT K H p ys) ∧ ∀ l, H l = none → Q (.ref l) (upd H l (.lst ys))) fList := fun H F O ds vs Qd Q ok ra q k => by
  unfold fList at q
  split at q
  · obtain ⟨v, rfl, r⟩ := ra.one
    split at q
    · next es he =>
      obtain ⟨a, xs, rfl, hs, ra⟩ := items_rep ok r he
      refine ⟨a, xs, rfl, hs, fun l hl => ?_⟩
      obtain ⟨ok2, e2⟩ := ok.lay hl (.lst xs)
      exact k _ _ _ _ e2 (.lst upd_same (ra.mono e2)) ok2 q
    · exact q.elim
  · exact q.elim
/-! #### sums, all, any -/
def intsD : List D → Option (List Int)
  | [] => some []
  | .int i :: r => (intsD r).map (i :: ·)
  | _ => none
theorem intsD_rep {F : Hp} : ∀ {ds : List D} {xs : List V} {ns : List Int}, RepA K F ds xs → intsD ds = some ns → xs = ns.map V.int
  | [], _, ns, .nil, h => by cases h; rfl
  | d :: ds, _, ns, .cons (v := v) hd hr, h => by
    cases d with
    | int i =>
      cases hd
      unfold intsD at h
      cases h2 : intsD ds with
      | none => rw [h2] at h; cases h
      | some ms =>
        rw [h2] at h
        cases h
        rw [intsD_rep hr h2]
        rfl
    | _ => cases h
theorem intsD_map (ns : List Int) : intsD (ns.map D.int) = some ns := by
  induction ns with
  | nil => rfl
  | cons n r ih => rw [List.map_cons]; unfold intsD; rw [ih]; rfl
def blsD : List D → Option (List Bool)
  | [] => some []
  | .bl i :: r => (blsD r).map (i :: ·)
  | _ => none
theorem blsD_rep {F : Hp} : ∀ {ds : List D} {xs : List V} {ns : List Bool}, RepA K F ds xs → blsD ds = some ns → xs = ns.map V.bl
  | [], _, ns, .nil, h => by cases h; rfl
  | d :: ds, _, ns, .cons (v := v) hd hr, h => by
    cases d with
    | bl i =>
      cases hd
      unfold blsD at h
      cases h2 : blsD ds with
      | none => rw [h2] at h; cases h
      | some ms =>
        rw [h2] at h
        cases h
        rw [blsD_rep hr h2]
        rfl
    | _ => cases h
theorem blsD_map (ns : List Bool) : blsD (ns.map D.bl) = some ns := by
  induction ns with
  | nil => rfl
  | cons n r ih => rw [List.map_cons]; unfold blsD; rw [ih]; rfl
def fAll : FC := fun O ds Q => match ds with
  | [x] => match (itemsL O x).bind blsD with
    | some bs => Q (.bl (bs.all id))
    | none => False
  | _ => False
theorem cd_all : CallD K (rAll K) fAll := fun H F O ds vs Qd Q ok ra q k => by
  unfold fAll at q
  split at q
  · obtain ⟨v, rfl, r⟩ := ra.one
    split at q
    · next bs h =>
      obtain ⟨es, h1, h2⟩ := Option.bind_eq_some_iff.mp h
      obtain ⟨a, xs, rfl, hs, ra⟩ := itemsL_rep ok r h1
      exact ⟨a, bs, rfl, by rw [← blsD_rep ra h2]; exact hs, k _ H F _ (Same.refl F) (.bl _) ok q⟩
    · exact q.elim
  · exact q.elim
def fAny : FC := fun O ds Q => match ds with
  | [x] => match (itemsL O x).bind blsD with
    | some bs => Q (.bl (bs.any id))
    | none => False
  | _ => False
theorem cd_any : CallD K (rAny K) fAny := fun H F O ds vs Qd Q ok ra q k => by
  unfold fAny at q
  split at q
  · obtain ⟨v, rfl, r⟩ := ra.one
    split at q
    · next bs h =>
      obtain ⟨es, h1, h2⟩ := Option.bind_eq_some_iff.mp h
      obtain ⟨a, xs, rfl, hs, ra⟩ := itemsL_rep ok r h1
      exact ⟨a, bs, rfl, by rw [← blsD_rep ra h2]; exact hs, k _ H F _ (Same.refl F) (.bl _) ok q⟩
    · exact q.elim
  · exact q.elim
def fSum : FC := fun O ds Q => match ds with
  | [x] => match (itemsL O x).bind intsD with
    | some ns => Q (.int ns.sum)
    | none => False
  | _ => False
theorem cd_sum : CallD K (rSum K) fSum := fun H F O ds vs Qd Q ok ra q k => by
  unfold fSum at q
  split at q
  · obtain ⟨v, rfl, r⟩ := ra.one
    split at q
    · next ns h =>
      obtain ⟨es, h1, h2⟩ := Option.bind_eq_some_iff.mp h
      obtain ⟨a, xs, rfl, hs, ra⟩ := itemsL_rep ok r h1
      exact ⟨a, ns, rfl, by rw [← intsD_rep ra h2]; exact hs, k _ H F _ (Same.refl F) (.int _) ok q⟩
    · exact q.elim
  · exact q.elim
/-! #### repr -/
def fRepr : FC := fun O ds Q => match ds with
  | [x] => match shown? O x with
    | some p => p.showable = true ∧ p.hasDict = false ∧ p.depth ≤ 100 ∧ p.shown.length ≤ sizeLine ∧ Q (.str p.shown)
    | none => False
  | _ => False
def rRepr (K : PySem.W.Frag) : List V → Hp → VK → Prop := fun xs H Q => ∃ v p, xs = [v] ∧ Dp K H v p ∧ p.showable = true ∧ p.hasDict = false ∧ p.depth ≤ 100 ∧ p.shown.length ≤ sizeLine ∧ Q (.str p.shown) H
theorem call_repr (hg : X.A.guards = some []) {k : Nat} (hr : Room k X.A) : CallR X (.builtin "repr") (rRepr X.K) := by
  intro pins s σ H xs us Q I r h
  obtain ⟨v, p, rfl, hd, hs, hn, hp, hz, q⟩ := h
  obtain ⟨u, rfl, ru⟩ := vals1 r
  have hu := hr.un
  have fin : ∀ (t : Tok) (h' : Heap) (tk : Nat), (∀ b o, s.heap.get? b = some o → h'.get? b = some o) → EP X pins σ Q (.str p.shown t) { s with heap := h', toks := tk } := fun t h' tk e => ⟨.str p.shown, H, I.kept e, ⟨t, rfl⟩, q⟩
  have fin0 : ∀ (t : Tok), EP X pins σ Q (.str p.shown t) { s with toks := s.toks + 1 } := fun t => ⟨.str p.shown, H, I.tok _, ⟨t, rfl⟩, q⟩
  obtain ⟨as, rd⟩ := Dp.reads I p v u hd ru
  cases rd with
  | none => exact PySem.P.repr_of_none (fin0 _)
  | bool b => exact PySem.P.repr_of_bool (fin0 _)
  | int i t => exact PySem.P.repr_of_int (by simpa [PyData.showable] using hs) (fin0 _)
  | str x t => exact PySem.P.repr_of_str (fin0 _) hz
  | list h1 h2 h3 h4 => exact repr_of_reads' (.list h1 h2 h3 h4) hs (PyData.noDict_hsm hn) hg (by omega) (fun _ _ e => e) (fun h' u tk e => fin u h' tk e) hz
  | tuple h1 h2 h3 h4 => exact repr_of_reads' (.tuple h1 h2 h3 h4) hs (PyData.noDict_hsm hn) hg (by omega) (fun _ _ e => e) (fun h' u tk e => fin u h' tk e) hz
  | dict h1 h2 h3 h4 h5 => simp [PyData.hasDict] at hn
theorem cd_repr : CallD K (rRepr K) fRepr := fun H F O ds vs Qd Q ok ra q k => by
  unfold fRepr at q
  split at q
  · obtain ⟨v, rfl, r⟩ := ra.one
    split at q
    · next p h1 =>
      obtain ⟨h2, h3, h4, h5, q⟩ := q
      exact ⟨v, p, rfl, shown_dp ok r h1, h2, h3, h4, h5, k _ H F _ (Same.refl F) (.str _) ok q⟩
    · exact q.elim
  · exact q.elim
/-! #### isinstance, built-in classes -/
def kindD (O : DH) : D → Option String
  | .non => some "NoneType"
  | .bl _ => some "bool"
  | .int _ => some "int"
  | .str _ => some "str"
  | .lst _ => some "list"
  | .wl _ => none
  | .tup _ => some "tuple"
  | .dic _ => some "dict"
  | .ref a => match O a with
    | some (.lst _) => some "list"
    | _ => none
  | _ => none
def subT (k T : String) : Bool := k == T || (k == "bool" && T == "int")
def kindsL : List String := ["NoneType", "bool", "int", "str", "list", "tuple", "dict"]
def tysL : List String := ["int", "bool", "str", "list", "tuple", "dict"]
theorem kit_all : kindsL.all (fun k => tysL.all fun T => decide (kitB k T = some (subT k T))) = true := by decide +kernel
theorem kit_of' {k T : String} (hk : k ∈ kindsL) (hT : T ∈ tysL) : PySem.W.kitOne K (.type k) (.type T) = some (subT k T) :=
  kit_ty (of_decide_eq_true (List.all_eq_true.mp (List.all_eq_true.mp kit_all k hk) T hT))
theorem kindD_rep {H F : Hp} {O : DH} (k : OkS K H F O) {d : D} {v : V} (r : Rep K F d v) {t : String} (h : kindD O d = some t) : TyX K H v (.type t) ∧ t ∈ kindsL := by
  cases r with
  | non => cases h; exact ⟨.base .non, by decide⟩
  | bl b => cases h; exact ⟨.base (.bl b), by decide⟩
  | int b => cases h; exact ⟨.base (.int b), by decide⟩
  | str b => cases h; exact ⟨.base (.str b), by decide⟩
  | lst h1 h2 => cases h; exact ⟨.base (.lst (k.ex _ _ h1)), by decide⟩
  | wl h1 h2 => cases h
  | tup h1 h2 =>
    cases h
    refine ⟨?_, by decide⟩
    rcases h1 with (h1 | ⟨o, h1⟩) | h1
    · exact .base (.tup (k.ex _ _ h1))
    · exact .fTuple (k.ex _ _ h1)
    · obtain ⟨o, its, n, e, c, _⟩ := h1
      exact .kTuple e c
  | dic h1 h2 => cases h; exact ⟨.base (.dK (k.ex _ _ h1)), by decide⟩
  | ref a =>
    unfold kindD at h
    simp only at h
    split at h
    · next ds e =>
      cases h
      obtain ⟨xs, h1, _⟩ := k.lst e
      exact ⟨.base (.lst h1), by decide⟩
    · cases h
  | ty => cases h
  | ins => cases h
  | exc => cases h
end
section
variable {X : Cx} {W : WX} {e : Expr} {ta : TD} {pos p pi pt : Pos} {k1 : Nat}
/-- isinstance(e, T) -/
def dIsi (T : String) (ta : TD) : TD := fun ρ O Q E => ta ρ O (fun d O1 => match kindD O1 d with
  | some k => Q (.bl (subT k T)) O1
  | none => False) E
def anyT (k : String) (Ts : List String) : Bool := Ts.any fun T => subT k T
def dIsiT (Ts : List String) (ta : TD) : TD := fun ρ O Q E => ta ρ O (fun d O1 => match kindD O1 d with
  | some k => Q (.bl (anyT k Ts)) O1
  | none => False) E
theorem de_isi {x : Str} {T : String} (hT : T ∈ tysL) (gi : Gl X "isinstance") (mi : X.mg "isinstance" = none) (hg : Gl X x) (hm : X.mg x = none) (hv : bootBuiltins x = some (.type T)) (he : DE X W e ta) (hn : x ≠ "__name__" := by decide) (hd : (x == ("__debug__" : Str)) = false := by decide)
    (h1 : starEach [e, .Name x p] X.env = (false, eval e X.env) :: starEach [.Name x p] X.env := by rfl) (h2 : starEach [.Name x p] X.env = (false, eval (.Name x p) X.env) :: starEach [] X.env := by rfl) (h3 : (backTo pos (starEach [.Name x p] X.env)).any (·.1) = false := by rfl) :
    DE X W (.Call (.Name "isinstance" pi) [e, .Name x p] [] pos) (dIsi T ta) :=
  pe_imp (pe_callB call_isi gi mi (by decide +kernel) (pa_cons he (pa_cons (pe_bltn (v := .ty T) hg hm hv rfl hn hd) pa_nil h2) h1) (by decide) (by decide) h1 h3) fun σ H Q u => by
    obtain ⟨F, ρ, O, Qd, Ed, ok, env, td, k, xr⟩ := u
    refine ⟨F, ρ, O, _, Ed, ok, env, td, fun v H1 F1 d O1 e1 r1 ok1 q1 => ?_, xr⟩
    split at q1
    · next t ht =>
      obtain ⟨ty, hk⟩ := kindD_rep ok1 r1 ht
      exact ⟨v, .ty T, .type t, .type T, _, rfl, .ty T, ty, kit_of' hk hT, k _ H1 F1 _ O1 e1 (.bl _) ok1 q1⟩
    · exact q1.elim
theorem kitAny_of {K : PySem.W.Frag} {k : String} (hk : k ∈ kindsL) : ∀ (Ts : List String), (∀ T ∈ Ts, T ∈ tysL) → PySem.W.kitAny K (.type k) (Ts.map Value.type) = some (anyT k Ts)
  | [], _ => rfl
  | T :: Ts, h => by
    rw [List.map_cons]
    refine kitAny_cons (kit_of' hk (h T List.mem_cons_self)) (fun hb => ?_) fun hb => ?_
    · rw [kitAny_of hk Ts fun T' h' => h T' (List.mem_cons_of_mem _ h')]
      unfold anyT
      rw [List.any_cons, hb, Bool.false_or]
    · unfold anyT
      rw [List.any_cons, hb, Bool.true_or]
theorem de_isi2 {x y : Str} {S T : String} {q : Pos} (hS : S ∈ tysL) (hT : T ∈ tysL) (gi : Gl X "isinstance") (mi : X.mg "isinstance" = none) (gx : Gl X x) (mx : X.mg x = none) (vx : bootBuiltins x = some (.type S)) (gy : Gl X y) (my : X.mg y = none) (vy : bootBuiltins y = some (.type T)) (he : DE X W e ta)
    (nx : x ≠ "__name__" := by decide) (dx : (x == ("__debug__" : Str)) = false := by decide) (ny : y ≠ "__name__" := by decide) (dy : (y == ("__debug__" : Str)) = false := by decide)
    (h1 : starEach [e, .Tuple [.Name x p, .Name y q] k1 pt] X.env = (false, eval e X.env) :: starEach [.Tuple [.Name x p, .Name y q] k1 pt] X.env := by rfl)
    (h3 : (backTo pos (starEach [.Tuple [.Name x p, .Name y q] k1 pt] X.env)).any (·.1) = false := by rfl) :
    DE X W (.Call (.Name "isinstance" pi) [e, .Tuple [.Name x p, .Name y q] k1 pt] [] pos) (dIsiT [S, T] ta) :=
  pe_imp (pe_callB call_isiT gi mi (by decide +kernel) (pa_cons he (pa_cons (pe_tup (pa_cons (pe_bltn (v := .ty S) gx mx vx rfl nx dx) (pa_cons (pe_bltn (v := .ty T) gy my vy rfl ny dy) pa_nil))) pa_nil) h1) (by decide) (by decide) h1 h3) fun σ H Q u => by
    obtain ⟨F, ρ, O, Qd, Ed, ok, env, td, k, xr⟩ := u
    refine ⟨F, ρ, O, _, Ed, ok, env, td, fun v H1 F1 d O1 e1 r1 ok1 q1 => ⟨(by show 2 ≤ sizeLine; decide), fun tp htp => ?_⟩, xr⟩
    split at q1
    · next t ht =>
      obtain ⟨ok2, e2⟩ := ok1.lay htp (.tup [.ty S, .ty T])
      obtain ⟨ty, hk⟩ := kindD_rep ok2 (r1.mono e2) ht
      exact ⟨v, tp, [.ty S, .ty T], .type t, _, _, rfl, upd_same, .cons (.ty S) (.cons (.ty T) .nil), ty, kitAny_of hk [S, T] (fun T' h' => by
        rcases List.mem_cons.mp h' with rfl | h'
        · exact hS
        · rcases List.mem_cons.mp h' with rfl | h'
          · exact hT
          · cases h'), k _ _ _ _ O1 (e1.trans e2) (.bl _) ok2 q1⟩
    · exact q1.elim
end
end Dx
namespace Dx
open PySem L2
section
variable {X : Cx} {W : WX} {e : Expr} {ta : TD} {pos pos' : Pos} {st : Stmt} {rest : List Stmt} {t u : TDS}
/-! ### statements -/
def dNext : TDS := fun E ρ O => E.nx ρ O
def dSeq (t u : TDS) : TDS := fun E ρ O => t { E with nx := fun ρ' O' => u E ρ' O' } ρ O
theorem ends_nx {K : PySem.W.Frag} {F : Hp} {Ed : DEnds} {En : Ends} (x : EndsRel K W F Ed En) {N : DEnv → DH → Prop} {M : L2.St → Hp → Prop} (h : ∀ σ' H' F' ρ' O', Same F F' → OkS K H' F' O' → EnvOk K F' σ' ρ' → N ρ' O' → M σ' H') : EndsRel K W F { Ed with nx := N } { En with nx := M } :=
  ⟨h, x.bk, x.ct, x.rt, x.ex⟩
theorem dss_nil : DSs X W [] dNext := pss_imp pss_nil fun E σ H u => by
  obtain ⟨F, ρ, O, Dd, ok, env, td, x⟩ := u
  exact x.nx σ H F ρ O (Same.refl F) ok env td
theorem dss_cons (h1 : DS X W st t) (h2 : DSs X W rest u) : DSs X W (st :: rest) (dSeq t u) := pss_imp (pss_cons h1 h2) fun E σ H v => by
  obtain ⟨F, ρ, O, Dd, ok, env, td, x⟩ := v
  exact ⟨F, ρ, O, _, ok, env, td, ends_nx x fun σ' H' F' ρ' O' e ok' env' q => ⟨F', ρ', O', Dd, ok', env', q, x.mono e⟩⟩
theorem dss_one (h1 : DS X W st t) : DSs X W [st] t := pss_one h1
def dRet (ta : TD) : TDS := fun E ρ O => ta ρ O (fun d O1 => ∃ O2, Sub O2 O1 ∧ E.rt d O2) fun c f O' => E.ex c f ρ O'
theorem ds_ret (he : DE X W e ta) : DS X W (.Return (some e) pos) (dRet ta) := ps_imp (ps_ret he) fun E σ H v => by
  obtain ⟨F, ρ, O, Dd, ok, env, td, x⟩ := v
  exact ⟨F, ρ, O, _, _, ok, env, td, fun v H' F' d O' e r ok' ⟨O2, s, q⟩ => x.rt v H' F' d O2 e r (ok'.less s) q, x.xr env⟩
/-- return of a list that was made here: it is frozen -/
def dRetF (ta : TD) : TDS := fun E ρ O => ta ρ O (fun d O1 => match d with
  | .ref a => match O1 a with
    | some (.lst ds) => ∃ O2, Sub O2 O1 ∧ O2 a = none ∧ E.rt (.lst ds) O2
    | some (.dic ds) => ∃ O2, Sub O2 O1 ∧ O2 a = none ∧ E.rt (.dic ds) O2
    | _ => False
  | _ => False) fun c f O' => E.ex c f ρ O'
/-- a is frozen: it will not change any more -/
theorem OkS.frz {K : PySem.W.Frag} {H F : Hp} {O O2 : DH} (k : OkS K H F O) {a : Addr} {m : MO} (h : O a = some m) (s : Sub O2 O) (n : O2 a = none) : ∃ o, H a = some o ∧ OkS K H (upd F a o) O2 ∧ Same F (upd F a o) := by
  obtain ⟨fa, hm⟩ := k.own a m h
  obtain ⟨o, ho⟩ := hm.some
  have e : Same F (upd F a o) := fun b u h => by rw [upd_ne (ne_of_none h fa)]; exact h
  refine ⟨o, ho, ⟨fun b u hb => ?_, fun b m' hb => ?_⟩, e⟩
  · by_cases hba : b = a
    · subst hba; rw [upd_same] at hb; cases hb; exact ho
    · rw [upd_ne hba] at hb; exact k.ex b u hb
  · have ne : b ≠ a := fun z => by rw [z, n] at hb; cases hb
    obtain ⟨h1, h2⟩ := k.own b m' (s b m' hb)
    exact ⟨by rw [upd_ne ne]; exact h1, h2.mono e rfl⟩
theorem OkS.frzL {K : PySem.W.Frag} {H F : Hp} {O O2 : DH} (k : OkS K H F O) {a : Addr} {ds : List D} (h : O a = some (.lst ds)) (s : Sub O2 O) (n : O2 a = none) : ∃ F', OkS K H F' O2 ∧ Same F F' ∧ Rep K F' (.lst ds) (.ref a) := by
  obtain ⟨xs, h1, h2⟩ := k.lst h
  obtain ⟨o, ho, ok2, e⟩ := k.frz h s n
  rw [h1] at ho
  cases ho
  exact ⟨_, ok2, e, .lst upd_same (h2.mono e)⟩
theorem OkS.frzD {K : PySem.W.Frag} {H F : Hp} {O O2 : DH} (k : OkS K H F O) {a : Addr} {ds : List (Key × D)} (h : O a = some (.dic ds)) (s : Sub O2 O) (n : O2 a = none) : ∃ F', OkS K H F' O2 ∧ Same F F' ∧ Rep K F' (.dic ds) (.ref a) := by
  obtain ⟨_, xs, h1, h2⟩ := k.own a _ h
  obtain ⟨o, ho, ok2, e⟩ := k.frz h s n
  rw [h1] at ho
  cases ho
  exact ⟨_, ok2, e, .dic upd_same (h2.mono e)⟩
theorem ds_retF (he : DE X W e ta) : DS X W (.Return (some e) pos) (dRetF ta) := ps_imp (ps_ret he) fun E σ H v => by
  obtain ⟨F, ρ, O, Dd, ok, env, td, x⟩ := v
  refine ⟨F, ρ, O, _, _, ok, env, td, fun v H' F' d O' e r ok' q => ?_, x.xr env⟩
  split at q
  · cases r
    split at q
    · next h =>
      obtain ⟨O2, s, n, q⟩ := q
      obtain ⟨F2, ok2, e2, r2⟩ := ok'.frzL h s n
      exact x.rt _ H' F2 _ O2 (e.trans e2) r2 ok2 q
    · next h =>
      obtain ⟨O2, s, n, q⟩ := q
      obtain ⟨F2, ok2, e2, r2⟩ := ok'.frzD h s n
      exact x.rt _ H' F2 _ O2 (e.trans e2) r2 ok2 q
    · exact q.elim
  · exact q.elim
def dRetN : TDS := fun E _ O => ∃ O2, Sub O2 O ∧ E.rt .non O2
theorem ds_retN : DS X W (.Return none pos) dRetN := ps_imp ps_retN fun E σ H v => by
  obtain ⟨F, ρ, O, Dd, ok, env, ⟨O2, s, q⟩, x⟩ := v
  exact x.rt .non H F .non O2 (Same.refl F) .non (ok.less s) q
def dDrop (ta : TD) : TDS := fun E ρ O => ta ρ O (fun _ O1 => E.nx ρ O1) fun c f O' => E.ex c f ρ O'
theorem ds_expr (he : DE X W e ta) (hs : swapsWith e none pos.line X.env = pure false := by rfl) : DS X W (.Expr e pos) (dDrop ta) := ps_imp (ps_expr he hs) fun E σ H v => by
  obtain ⟨F, ρ, O, Dd, ok, env, td, x⟩ := v
  exact ⟨F, ρ, O, _, _, ok, env, td, fun v H' F' d O' e r ok' q => x.nx σ H' F' ρ O' e ok' (env.mono e) q, x.xr env⟩
def dIfS (c : TDT) (t u : TDS) : TDS := fun E ρ O => c ρ O (fun b O1 => match b with
  | true => t E ρ O1
  | false => u E ρ O1) fun c f O' => E.ex c f ρ O'
theorem ds_if {c : Expr} {a b : List Stmt} {tc : TDT} (hc : DT X W c tc) (ha : DSs X W a t) (hb : DSs X W b u) : DS X W (.If c a b pos) (dIfS tc t u) := ps_imp (ps_if hc ha hb) fun E σ H v => by
  obtain ⟨F, ρ, O, Dd, ok, env, td, x⟩ := v
  refine ⟨F, ρ, O, _, _, ok, env, td, fun b H' F' O' e ok' q => ?_, x.xr env⟩
  cases b with
  | true => exact iteT ⟨F', ρ, O', Dd, ok', env.mono e, q, x.mono e⟩
  | false => exact iteF ⟨F', ρ, O', Dd, ok', env.mono e, q, x.mono e⟩
theorem ds_pass : DS X W (.Pass pos) dNext := ps_imp ps_pass fun E σ H u => by
  obtain ⟨F, ρ, O, Dd, ok, env, td, x⟩ := u
  exact x.nx σ H F ρ O (Same.refl F) ok env td
def dBreak : TDS := fun E ρ O => E.bk ρ O
theorem ds_break : DS X W (.Break pos) dBreak := ps_imp ps_break fun E σ H u => by
  obtain ⟨F, ρ, O, Dd, ok, env, td, x⟩ := u
  exact x.bk σ H F ρ O (Same.refl F) ok env td
def dCont : TDS := fun E ρ O => E.ct ρ O
theorem ds_cont : DS X W (.Continue pos) dCont := ps_imp ps_continue fun E σ H u => by
  obtain ⟨F, ρ, O, Dd, ok, env, td, x⟩ := u
  exact x.ct σ H F ρ O (Same.refl F) ok env td
/-! ### targets: names, tuples of targets -/
abbrev DG := D → DEnv → (DEnv → Prop) → Prop
def upG (K : PySem.W.Frag) (vs : List Nat) (g : DG) : TG := fun v σ H Q => ∃ F ρ d Qd, Same F H ∧ EnvOk K F σ ρ ∧ Rep K F d v ∧ g d ρ Qd ∧ ∀ σ' ρ', EnvOk K F σ' ρ' → wipe σ' vs = wipe σ vs → Qd ρ' → Q σ' H
abbrev GP (X : Cx) (vs : List Nat) (tg : Expr) (g : DG) : Prop := PG X tg (upG X.K vs g)
def gN (i : Nat) : DG := fun d ρ Q => Q (ρ.set i (some d))
theorem wipe_set {σ : L2.St} {x : Option V} : ∀ {vs : List Nat} {i : Nat}, i ∈ vs → wipe (σ.set i x) vs = wipe σ vs := by
  have h0 : ∀ (vs : List Nat) (σ : L2.St) (j : Nat), (wipe σ vs)[j]? = if j ∈ vs then (σ[j]?).map (fun _ => none) else σ[j]? := by
    intro vs
    induction vs with
    | nil => intro σ j; simp [wipe]
    | cons k r ih =>
      intro σ j
      show ((wipe σ r).set k none)[j]? = _
      rw [List.getElem?_set]
      by_cases hk : k = j
      · subst hk
        simp only [if_true, List.mem_cons, true_or]
        rw [wipe_length]
        by_cases hl : k < σ.length
        · simp [hl]
        · simp [hl, List.getElem?_eq_none (Nat.le_of_not_lt hl)]
      · rw [if_neg hk, ih]
        have : j ≠ k := fun z => hk z.symm
        simp [this]
  intro vs i hi
  apply List.ext_getElem?
  intro j
  rw [h0, h0]
  by_cases hj : j ∈ vs
  · rw [if_pos hj, if_pos hj, List.getElem?_set]
    by_cases hij : i = j
    · subst hij
      by_cases hl : i < σ.length
      · simp [hl]
      · simp [hl, List.getElem?_eq_none (Nat.le_of_not_lt hl)]
    · rw [if_neg hij]
  · rw [if_neg hj, if_neg hj, List.getElem?_set_ne (fun z => hj (by subst z; exact hi))]
theorem gp_name {i : Nat} {x : Str} {vs : List Nat} (hN : X.N.Nodup) (hm : i ∈ vs) (hi : X.N[i]? = some x) (hx : Loc X.env.scope x) (hf : X.fn x = true ∨ X.env.scope.names.lookup x = some .local := by first | exact .inl rfl | exact .inr rfl | assumption) : GP X vs (.Name x pos) (gN i) :=
  ⟨fun pins s σ H v u Q I r h => by
    obtain ⟨F, ρ, d, Qd, ex, env, rd, g, k⟩ := h
    exact (pg_name hN hi hx hf).run pins s σ H v u Q I r (k _ _ (env.set rd i) (wipe_set hm) g)⟩
abbrev DGs := List D → DEnv → (DEnv → Prop) → Prop
def gNl : DGs := fun ds ρ Q => match ds with
  | [] => Q ρ
  | _ => False
def gCn (g : DG) (r : DGs) : DGs := fun ds ρ Q => match ds with
  | d :: ds => g d ρ fun ρ' => r ds ρ' Q
  | [] => False
def gTu (r : DGs) : DG := fun d ρ Q => match d with
  | .tup ds => r ds ρ Q
  | _ => False
def upGs (K : PySem.W.Frag) (vs : List Nat) (g : DGs) : TGs := fun v σ H Q => ∃ F ρ d Qd, Same F H ∧ EnvOk K F σ ρ ∧ RepA K F d v ∧ g d ρ Qd ∧ ∀ σ' ρ', EnvOk K F σ' ρ' → wipe σ' vs = wipe σ vs → Qd ρ' → Q σ' H
abbrev GPs (X : Cx) (vs : List Nat) (tg : List Expr) (g : DGs) : Prop := PGs X tg (upGs X.K vs g)
theorem gps_nil {vs : List Nat} : GPs X vs [] gNl := ⟨fun pins s σ H v u Q I r h => by
  obtain ⟨F, ρ, d, Qd, ex, env, rd, g, k⟩ := h
  cases rd with
  | nil => exact pgs_nil.run pins s σ H [] u Q I r ⟨rfl, k _ _ env rfl g⟩
  | cons _ _ => exact g.elim⟩
theorem gps_cons {vs : List Nat} {es : List Expr} {g : DG} {r : DGs} (h1 : GP X vs e g) (h2 : GPs X vs es r) (hs : (assignEach (e :: es) X.env).map (·.2) = assign e X.env :: (assignEach es X.env).map (·.2) := by rfl) : GPs X vs (e :: es) (gCn g r) :=
  ⟨fun pins s σ H v u Q I rr h => (pgs_cons h1 h2 hs).run pins s σ H v u Q I rr (by
    obtain ⟨F, ρ, d, Qd, ex, env, rd, g, k⟩ := h
    cases rd with
    | nil => exact g.elim
    | cons r1 r2 =>
      refine ⟨_, _, rfl, F, ρ, _, _, ex, env, r1, g, fun σ' ρ' env' hw q => ?_⟩
      exact ⟨F, ρ', _, _, ex, env', r2, q, fun σ2 ρ2 env2 hw2 q2 => k σ2 ρ2 env2 (hw2.trans hw) q2⟩)⟩
theorem gp_tup {vs : List Nat} {es : List Expr} {k1 : Nat} {r : DGs} {n : Nat} (hc : X.calm = true) (h : GPs X vs es r) (hn0 : ∀ ds ρ Q, r ds ρ Q → ds.length = n) (hn : (assignEach es X.env).length = n := by rfl) (hst : (assignEach es X.env).findIdx? (·.1) = none := by rfl) :
    GP X vs (.Tuple es k1 pos) (gTu r) := ⟨fun pins s σ H v u Q I rr hh => (pg_tup hc h hn hst).run pins s σ H v u Q I rr (by
    obtain ⟨F, ρ, d, Qd, ex, env, rd, g, k⟩ := hh
    unfold gTu at g
    split at g
    · cases rd with
      | tup h1 h2 => exact ⟨_, _, rfl, same_sqt ex h1, by rw [← h2.length]; exact hn0 _ _ _ g, F, ρ, _, Qd, ex, env, h2, g, k⟩
    · exact g.elim)⟩
theorem gcn_len {g : DG} {r : DGs} {n : Nat} (h : ∀ ds ρ Q, r ds ρ Q → ds.length = n) (hg : ∀ d ρ Q, g d ρ Q → ∃ ρ', Q ρ') : ∀ ds ρ Q, gCn g r ds ρ Q → ds.length = n + 1 := fun ds ρ Q q => by
  cases ds with
  | nil => exact q.elim
  | cons d ds =>
    obtain ⟨ρ', q'⟩ := hg _ _ _ q
    rw [List.length_cons, h _ _ _ q']
theorem gnl_len : ∀ ds ρ Q, gNl ds ρ Q → ds.length = 0 := fun ds ρ Q q => by
  cases ds with
  | nil => rfl
  | cons d ds => exact q.elim
theorem gn_go {i : Nat} : ∀ d ρ Q, gN i d ρ Q → ∃ ρ', Q ρ' := fun d ρ Q q => ⟨_, q⟩
/-! ### assignments -/
def dAsg (ta : TD) (g : DG) : TDS := fun E ρ O => ta ρ O (fun d O1 => g d ρ fun ρ' => E.nx ρ' O1) fun c f O' => E.ex c f ρ O'
theorem up_asg {vs : List Nat} {g : DG} {K : PySem.W.Frag} : ∀ E σ H, upS K W (dAsg ta g) E σ H → tAsg (up K W ta) (upG K vs g) E σ H := fun E σ H v => by
  obtain ⟨F, ρ, O, Dd, ok, env, td, x⟩ := v
  refine ⟨F, ρ, O, _, _, ok, env, td, fun v H' F' d O' e r ok' q => ?_, x.xr env⟩
  exact ⟨F', ρ, d, _, ok'.ex, env.mono e, r, q, fun σ' ρ' env' _ q' => x.nx σ' H' F' ρ' O' e ok' env' q'⟩
theorem ds_asg {vs : List Nat} {tg : Expr} {g : DG} (he : DE X W e ta) (hg : GP X vs tg g) (hs : swapsWithSole [tg] e pos.line X.env = pure false := by rfl) (hw : swappedStores [tg] e X.env = pure none := by rfl)
    (h1 : (assignEach [tg] X.env).map (·.2) = [assign tg X.env] := by rfl) : DS X W (.Assign [tg] e pos) (dAsg ta g) := ps_imp (ps_asg he hg hs hw h1) up_asg
theorem ds_set (i : Nat) {x : Str} (hN : X.N.Nodup) (he : DE X W e ta) (hi : X.N[i]? = some x := by rfl) (hx : Loc X.env.scope x := by first | exact Or.inl rfl | exact Or.inr rfl) (hs : swapsWith e (some (.Name x pos')) pos.line X.env = pure false := by rfl)
    (hf : X.fn x = true ∨ X.env.scope.names.lookup x = some .local := by first | exact .inl rfl | exact .inr rfl) : DS X W (.Assign [.Name x pos'] e pos) (dAsg ta (gN i)) :=
  ps_imp (ps_set hN hi hx he hs hf) fun E σ H v => by
    obtain ⟨F, ρ, O, Dd, ok, env, td, x⟩ := v
    exact ⟨F, ρ, O, _, _, ok, env, td, fun v H' F' d O' e r ok' q => x.nx _ H' F' _ O' e ok' ((env.mono e).set r i) q, x.xr env⟩
/-- a, b = x, y -/
def dPar (i j : Nat) (tr : TDA) : TDS := fun E ρ O => tr ρ O (fun ds O1 => match ds with
  | [d1, d2] => E.nx ((ρ.set i (some d1)).set j (some d2)) O1
  | _ => False) fun c f O' => E.ex c f ρ O'
theorem ds_par (i j : Nat) {x y : Str} {a b : Expr} {tr : TDA} {px py pt : Pos} {kt k2 pt2} (hN : X.N.Nodup) (ha : DA X W [a, b] tr) (hc : X.calm = true := by rfl) (hi : X.N[i]? = some x := by rfl) (hj : X.N[j]? = some y := by rfl) (hij : i ≠ j := by decide)
    (hx : X.env.scope.names.lookup x = some .local := by rfl) (hy : X.env.scope.names.lookup y = some .local := by rfl) (hw : swappedStores [.Tuple [.Name x px, .Name y py] kt pt] (.Tuple [a, b] k2 pt2) X.env = pure (some [x, y]) := by rfl) (hs : swapsWithSole [.Tuple [.Name x px, .Name y py] kt pt] (.Tuple [a, b] k2 pt2) pos.line X.env = pure false := by rfl) : DS X W (.Assign [.Tuple [.Name x px, .Name y py] kt pt] (.Tuple [a, b] k2 pt2) pos) (dPar i j tr) :=
  ps_imp (ps_par hc hN hi hj hij hx hy ha hw hs) fun E σ H v => by
    obtain ⟨F, ρ, O, Dd, ok, env, td, x⟩ := v
    refine ⟨F, ρ, O, _, _, ok, env, td, fun vs H' F' ds O' e r ok' q => ?_, x.xr env⟩
    split at q
    · obtain ⟨v, w, rfl, r1, r2⟩ := r.two
      exact ⟨v, w, rfl, x.nx _ H' F' _ O' e ok' (((env.mono e).set r1 i).set r2 j) q⟩
    · exact q.elim
/-- x += e -/
def dAug (i : Nat) (f : FD2) (ta : TD) : TDS := fun E ρ O => match ρ[i]? with
  | some (some x) => ta ρ O (fun y O1 => f O1 x y fun z => E.nx (ρ.set i (some z)) O1) fun c f O' => E.ex c f ρ O'
  | _ => False
theorem ds_aug (i : Nat) {x : Str} {op : Operator} {r : R2} {f : FD2} (hN : X.N.Nodup) (ho : PIp X op r) (h : Op2 X.K r f) (he : DE X W e ta) (hi : X.N[i]? = some x := by rfl) (hx : Loc X.env.scope x := by first | exact Or.inl rfl | exact Or.inr rfl)
    (hf : X.fn x = true ∨ X.env.scope.names.lookup x = some .local := by first | exact .inl rfl | exact .inr rfl) : DS X W (.AugAssign (.Name x pos') op e pos) (dAug i f ta) :=
  ps_imp (ps_aug hN hi hx he ho hf) fun E σ H v => by
    obtain ⟨F, ρ, O, Dd, ok, env, td, x⟩ := v
    unfold dAug at td
    split at td
    · next d hd =>
      obtain ⟨v, h1, h2⟩ := env.at_ i d hd
      refine ⟨v, h1, F, ρ, O, _, _, ok, env, td, fun w H' F' d' O' e r ok' q => ?_, x.xr env⟩
      exact h H' F' O' d d' v w _ _ ok' (h2.mono e) r q fun v3 H3 F3 d3 e3 r3 ok3 q3 => x.nx _ H3 F3 _ O' (e.trans e3) ok3 ((env.mono (e.trans e3)).set r3 i) q3
    · exact td.elim
/-- o[i] = e of a list that may change -/
def dSetIx (te to_ ti : TD) : TDS := fun E ρ O => te ρ O (fun d O1 => to_ ρ O1 (fun o O2 => ti ρ O2 (fun k O3 => match o, k with
  | .ref a, .int z => match O3 a with
    | some (.lst ds) => match ixN ds.length z with
      | some j => E.nx ρ (updO O3 a (.lst (ds.set j d)))
      | none => False
    | _ => False
  | _, _ => False) fun c f O' => E.ex c f ρ O') fun c f O' => E.ex c f ρ O') fun c f O' => E.ex c f ρ O'
theorem ds_setIx {o i : Expr} {to_ ti : TD} (he : DE X W e ta) (ho : DE X W o to_) (hi : DE X W i ti)
    (ha : ∀ v, assign (.Subscript o i pos') X.env v = (do
      let ov ← holding [v] (eval o X.env)
      let iv ← holding [v, ov] (eval i X.env)
      standAt pos'
      holding [v, ov, iv] (setItem ov iv v)
      release [v, ov, iv] []) := by intro _; rfl) (hs : swapsWithSole [.Subscript o i pos'] e pos.line X.env = pure false := by rfl) (hw : swappedStores [.Subscript o i pos'] e X.env = pure none := by rfl)
    (h1 : (assignEach [.Subscript o i pos'] X.env).map (·.2) = [assign (.Subscript o i pos') X.env] := by rfl) : DS X W (.Assign [.Subscript o i pos'] e pos) (dSetIx ta to_ ti) :=
  ps_imp (ps_asg he (pg_sub ho hi set_list ha) hs hw h1) fun E σ H v => by
    obtain ⟨F, ρ, O, Dd, ok, env, td, x⟩ := v
    refine ⟨F, ρ, O, _, _, ok, env, td, fun v1 H1 F1 d1 O1 e1 r1 ok1 q1 => ?_, x.xr env⟩
    refine ⟨F1, ρ, O1, _, _, ok1, env.mono e1, q1, fun v2 H2 F2 d2 O2 e2 r2 ok2 q2 => ?_, (x.mono e1).xr (env.mono e1)⟩
    refine ⟨F2, ρ, O2, _, _, ok2, env.mono (e1.trans e2), q2, fun v3 H3 F3 d3 O3 e3 r3 ok3 q3 => ?_, (x.mono (e1.trans e2)).xr (env.mono (e1.trans e2))⟩
    split at q3
    · cases r2
      cases r3
      split at q3
      · next ds hds =>
        split at q3
        · next j hj =>
          obtain ⟨xs, h1, h2⟩ := ok3.lst hds
          refine ⟨_, xs, _, j, rfl, rfl, h1, by rw [← h2.length]; exact hj, ?_⟩
          have e := (e1.trans e2).trans e3
          exact x.nx σ _ F3 ρ _ e (ok3.put (m := .lst (ds.set j d1)) hds ⟨_, upd_same, h2.set (r1.mono (e2.trans e3)) j⟩) (env.mono e) q3
        · exact q3.elim
      · exact q3.elim
    · exact q3.elim
/-- l.append(e) -/
def dApp (to_ te : TD) : TDS := fun E ρ O => to_ ρ O (fun o O1 => match o with
  | .ref a => match O1 a with
    | some (.lst _) => te ρ O1 (fun d O2 => match O2 a with
      | some (.lst ds) => ds.length < sizeLine ∧ E.nx ρ (updO O2 a (.lst (ds ++ [d])))
      | _ => False) fun c f O' => E.ex c f ρ O'
    | _ => False
  | _ => False) fun c f O' => E.ex c f ρ O'
theorem up_app {K : PySem.W.Frag} {to_ te : TD} : ∀ E σ H, upS K W (dApp to_ te) E σ H → tDrop (tBM K "list" rAppend (up K W to_) (tCons (up K W te) tNil)) E σ H := fun E σ H v => by
  obtain ⟨F, ρ, O, Dd, ok, env, td, x⟩ := v
  refine ⟨F, ρ, O, _, _, ok, env, td, fun v1 H1 F1 d1 O1 e1 r1 ok1 q1 => ?_, x.xr env⟩
  split at q1
  · cases r1
    split at q1
    · next hl0 =>
      obtain ⟨xs0, h0, _⟩ := ok1.lst hl0
      refine ⟨.inl ⟨rfl, xs0, .inl (.inl h0)⟩, F1, ρ, O1, _, _, ok1, env.mono e1, q1, fun v2 H2 F2 d2 O2 e2 r2 ok2 q2 => ?_, (x.mono e1).xr (env.mono e1)⟩
      split at q2
      · next ds hds =>
        obtain ⟨xs, h1, h2⟩ := ok2.lst hds
        refine ⟨_, xs, v2, rfl, rfl, h1, by rw [← h2.length]; exact q2.1, ?_⟩
        exact x.nx σ _ F2 ρ _ (e1.trans e2) (ok2.put (m := .lst (ds ++ [d2])) hds ⟨_, upd_same, h2.append (.cons r2 .nil)⟩) (env.mono (e1.trans e2)) q2.2
      · exact q2.elim
    · exact q1.elim
  · exact q1.elim
theorem ds_app {o : Expr} {to_ : TD} {apos cpos : Pos} (ho : DE X W o to_) (he : DE X W e ta) (h1 : attributeBase o "append" X.env (eval o X.env) = eval o X.env := by rfl)
    (h2 : (((backTo cpos (starEach [e] X.env)).all fun x => !x.fst) && (backToKw cpos (keywordEach [] X.env)).all (fun x => x.fst.isSome) && decide (([e].length + ([] : List Keyword).length + if ([] : List Keyword).isEmpty = true then 0 else 1) < 30)) = true := by rfl)
    (h3 : (apos.endLine == cpos.line) = true := by rfl) (h4 : starEach [e] X.env = (false, eval e X.env) :: starEach [] X.env := by rfl) (h5 : ((backTo cpos (starEach [] X.env)).any fun x => x.fst) = false := by rfl)
    (hs : swapsWith (.Call (.Attribute o "append" apos) [e] [] cpos) none pos.line X.env = pure false := by rfl) : DS X W (.Expr (.Call (.Attribute o "append" apos) [e] [] cpos) pos) (dApp to_ ta) :=
  ps_imp (ps_expr (pe_bm PySem.F.plainAttrs_list PySem.F.slot_list_append PySem.F.type_list_append mt_append ho (pa_cons he pa_nil h4) h1 h2 h3 h4 h5) hs) up_app
/-! ### what is walked -/
/-- J yields ds, while gd says so of what changes -/
def ItOk (K : PySem.W.Frag) (F : Hp) (gd : DH → Prop) (J : It) (ds : List D) : Prop := ∀ H F' O', Same F F' → OkS K H F' O' → gd O' → ∀ i,
  (∀ d, ds[i]? = some d → J.go i H ∧ ∀ x H', J.yld i H x H' → (H' = H ∧ Rep K F' d x) ∨ ∃ p o, H p = none ∧ H' = upd H p o ∧ Rep K (upd F' p o) d x) ∧ (ds.length ≤ i → J.stop i H)
theorem ItOk.mono {K : PySem.W.Frag} {F F' : Hp} {gd : DH → Prop} {J : It} {ds : List D} (h : ItOk K F gd J ds) (e : Same F F') : ItOk K F' gd J ds := fun H F2 O' e2 => h H F2 O' (e.trans e2)
abbrev gdT : DH → Prop := fun _ => True
abbrev TDI := DEnv → DH → (List D → (DH → Prop) → DH → Prop) → XD → Prop
def upI (K : PySem.W.Frag) (W : WX) (td : TDI) : TI := fun σ H R => ∃ F ρ O Qd Ed, OkS K H F O ∧ EnvOk K F σ ρ ∧ td ρ O Qd Ed ∧ (∀ J H' F' ds gd O', Same F F' → OkS K H' F' O' → ItOk K F' gd J ds → Qd ds gd O' → R J H') ∧ XRel K W F σ Ed
abbrev DI (X : Cx) (W : WX) (tg iter : Expr) (td : TDI) : Prop := PI X tg iter (upI X.K W td)
theorem pi_imp {X : Cx} {tg iter : Expr} {wi wi' : TI} (h : PI X tg iter wi) (i : ∀ σ H R, wi' σ H R → wi σ H R) : PI X tg iter wi' := ⟨fun pins s σ H R I hw => h.run pins s σ H R I (i σ H R hw)⟩
theorem itl_ok {K : PySem.W.Frag} {F : Hp} {a : Addr} {xs : List V} {ds : List D} (h : SqL K F a xs) (r : RepA K F ds xs) : ItOk K F gdT (Itl K a) ds := fun H F' O' e ok _ i => by
  have h' := same_sql (e.trans ok.ex) h
  refine ⟨fun d hd => ?_, fun hl => ⟨xs, h', by rw [← r.length]; exact hl⟩⟩
  obtain ⟨v, hv, rv⟩ := r.get hd
  refine ⟨⟨xs, v, h', hv⟩, fun x H' y => .inl ⟨y.1, ?_⟩⟩
  have := y.2 xs h'
  rw [hv] at this
  cases this
  exact rv.mono e
theorem itm_ok {K : PySem.W.Frag} {F : Hp} {a : Addr} {ds : List D} : ItOk K F (fun O => O a = some (.lst ds)) (Itl K a) ds := fun H F' O' e ok g i => by
  obtain ⟨xs, h, r⟩ := ok.lst g
  have h' : SqL K H a xs := .inl (.inl h)
  refine ⟨fun d hd => ?_, fun hl => ⟨xs, h', by rw [← r.length]; exact hl⟩⟩
  obtain ⟨v, hv, rv⟩ := r.get hd
  refine ⟨⟨xs, v, h', hv⟩, fun x H' y => .inl ⟨y.1, ?_⟩⟩
  have := y.2 xs h'
  rw [hv] at this
  cases this
  exact rv
theorem itt_ok {K : PySem.W.Frag} {F : Hp} {a : Addr} {xs : List V} {ds : List D} (h : SqT K F a xs) (r : RepA K F ds xs) : ItOk K F gdT (Itt K a) ds := fun H F' O' e ok _ i => by
  have h' := same_sqt (e.trans ok.ex) h
  refine ⟨fun d hd => ?_, fun hl => ⟨xs, h', by rw [← r.length]; exact hl⟩⟩
  obtain ⟨v, hv, rv⟩ := r.get hd
  refine ⟨⟨xs, v, h', hv⟩, fun x H' y => .inl ⟨y.1, ?_⟩⟩
  have := y.2 xs h'
  rw [hv] at this
  cases this
  exact rv.mono e
def intsFrom (lo : Int) (n : Nat) : List D := (List.range n).map fun (i : Nat) => D.int (lo + (i : Int))
theorem itr_ok {K : PySem.W.Frag} {F : Hp} {lo : Int} {n : Nat} : ItOk K F gdT (Itr lo n) (intsFrom lo n) := fun H F' O' e ok _ i => by
  refine ⟨fun d hd => ?_, fun hl => by
    unfold intsFrom at hl
    show n ≤ i
    simpa using hl⟩
  unfold intsFrom at hd
  rw [List.getElem?_map] at hd
  cases hr : (List.range n)[i]? with
  | none => rw [hr] at hd; cases hd
  | some j =>
    rw [hr] at hd
    cases hd
    obtain ⟨hi, hj⟩ := List.getElem?_eq_some_iff.mp hr
    have hj' : i = j := by simpa using hj
    subst hj'
    have hn : i < n := by simpa using hi
    exact ⟨hn, fun x H' y => .inl ⟨y.1, by rw [y.2]; exact .int _⟩⟩
/-- a list or a tuple -/
def iSeq (K : PySem.W.Frag) (tl : TE) : TI := fun σ H R => tl σ H fun x H1 => ∃ a, x = .ref a ∧ (((∃ xs, SqL K H1 a xs) ∧ R (Itl K a) H1) ∨ ((∃ xs, SqT K H1 a xs) ∧ R (Itt K a) H1))
theorem pi_seq {tg l : Expr} {tl : TE} (hl : PE X l tl) : PI X tg l (iSeq X.K tl) := by
  refine ⟨fun pins s σ H R I h => thn (hl.run pins s σ H _ I h) fun v s1 hq => ?_⟩
  obtain ⟨x, H1, I1, r1, a, rfl, q⟩ := hq
  cases r1
  have fresh : ∀ b ∈ [s1.heap.objs.size], FpOk X pins H1 b := fun b hb => by
    obtain rfl : b = s1.heap.objs.size := by simpa using hb
    exact I1.fpOk (Nat.le_refl _) (I1.hok.fresh (Nat.le_refl _))
  rcases q with ⟨⟨xs, hq⟩, q⟩ | ⟨⟨xs, hq⟩, q⟩
  · obtain ⟨its, _, hp, _⟩ := I1.list hq
    exact wpAny_pyIter_list hp.isList ⟨_, [s1.heap.objs.size], _, Itl X.K a, H1, rfl, I1.kept (t' := s1.toks) fun b o e => Heap.get?_push_of_some _ e, turn_list a _, ⟨_, Heap.get?_push_size _ rfl, rfl, rfl⟩, fresh, q⟩
  · obtain ⟨its, _, hp, _⟩ := I1.tuple hq
    exact wpAny_pyIter_tuple (show s1.heap.IsTuple a its.toArray from hp) ⟨_, [s1.heap.objs.size], _, Itt X.K a, H1, rfl, I1.kept (t' := s1.toks) fun b o e => Heap.get?_push_of_some _ e, turn_tuple a _, ⟨_, Heap.get?_push_size _ rfl, rfl, rfl⟩, fresh, q⟩
/-- what a list or tuple holds, and what must stand while it is walked -/
def guardD (d : D) (ds : List D) : DH → Prop := match d with
  | .ref a => fun O => O a = some (.lst ds)
  | _ => gdT
def dISeq (t : TD) : TDI := fun ρ O Q E => t ρ O (fun d O1 => match items O1 d with
  | some ds => Q ds (guardD d ds) O1
  | none => False) E
theorem di_seq {tg l : Expr} {tl : TD} (hl : DE X W l tl) : DI X W tg l (dISeq tl) := pi_imp (pi_seq hl) fun σ H R u => by
  obtain ⟨F, ρ, O, Qd, Ed, ok, env, td, k, xr⟩ := u
  refine ⟨F, ρ, O, _, Ed, ok, env, td, fun v H1 F1 d O1 e1 r1 ok1 q1 => ?_, xr⟩
  split at q1
  · next ds h =>
    cases r1 with
    | lst h1 h2 => cases h; exact ⟨_, rfl, .inl ⟨⟨_, .inl (.inl (ok1.ex _ _ h1))⟩, k _ H1 F1 _ _ O1 e1 ok1 (itl_ok (.inl (.inl h1)) h2) q1⟩⟩
    | wl h1 h2 => cases h; exact ⟨_, rfl, .inl ⟨⟨_, same_sql ok1.ex h1⟩, k _ H1 F1 _ _ O1 e1 ok1 (itl_ok h1 h2) q1⟩⟩
    | tup h1 h2 => cases h; exact ⟨_, rfl, .inr ⟨⟨_, same_sqt ok1.ex h1⟩, k _ H1 F1 _ _ O1 e1 ok1 (itt_ok h1 h2) q1⟩⟩
    | ref a =>
      unfold items at h
      simp only at h
      split at h
      · next es e =>
        cases h
        obtain ⟨xs, h1, _⟩ := ok1.lst e
        exact ⟨_, rfl, .inl ⟨⟨_, .inl (.inl h1)⟩, k _ H1 F1 _ _ O1 e1 ok1 itm_ok q1⟩⟩
      · cases h
    | _ => cases h
  · exact q1.elim
def dIRng1 (tr : TDA) : TDI := fun ρ O Q E => tr ρ O (fun ds O1 => match ds with
  | [.int j] => -(2 ^ 62) ≤ j ∧ j < 2 ^ 62 ∧ Q (intsFrom 0 j.toNat) gdT O1
  | _ => False) E
theorem di_rng1 {tg a : Expr} {tr : TDA} {p : Pos} (hg : Gl X "range") (hm : X.mg "range" = none) (ha : DA X W [a] tr) (hs : starEach [a] X.env = [(false, eval a X.env)] := by rfl) : DI X W tg (.Call (.Name "range" p) [a] [] pos) (dIRng1 tr) :=
  pi_imp (pi_range1 hg hm ha hs) fun σ H R u => by
    obtain ⟨F, ρ, O, Qd, Ed, ok, env, td, k, xr⟩ := u
    refine ⟨F, ρ, O, _, Ed, ok, env, td, fun v H1 F1 d O1 e1 r1 ok1 q1 => ?_, xr⟩
    split at q1
    · obtain ⟨v, rfl, r⟩ := r1.one
      cases r
      exact ⟨_, rfl, q1.1, q1.2.1, k _ H1 F1 _ _ O1 e1 ok1 itr_ok q1.2.2⟩
    · exact q1.elim
def dIRng2 (tr : TDA) : TDI := fun ρ O Q E => tr ρ O (fun ds O1 => match ds with
  | [.int i, .int j] => (-(2 ^ 62) ≤ i ∧ i < 2 ^ 62 ∧ -(2 ^ 62) ≤ j ∧ j < 2 ^ 62) ∧ Q (intsFrom i (j - i).toNat) gdT O1
  | _ => False) E
theorem di_rng2 {tg a b : Expr} {tr : TDA} {p : Pos} (hg : Gl X "range") (hm : X.mg "range" = none) (ha : DA X W [a, b] tr) (hs : starEach [a, b] X.env = [(false, eval a X.env), (false, eval b X.env)] := by rfl) (hs2 : starEach [b] X.env = [(false, eval b X.env)] := by rfl) : DI X W tg (.Call (.Name "range" p) [a, b] [] pos) (dIRng2 tr) :=
  pi_imp (pi_range2 hg hm ha hs hs2) fun σ H R u => by
    obtain ⟨F, ρ, O, Qd, Ed, ok, env, td, k, xr⟩ := u
    refine ⟨F, ρ, O, _, Ed, ok, env, td, fun v H1 F1 d O1 e1 r1 ok1 q1 => ?_, xr⟩
    split at q1
    · obtain ⟨v, w, rfl, r, r'⟩ := r1.two
      cases r; cases r'
      exact ⟨_, _, rfl, q1.1, k _ H1 F1 _ _ O1 e1 ok1 itr_ok q1.2⟩
    · exact q1.elim
/-! ### for -/
def forGo (g : DG) (b : TDS) (E : DEnds) (gd : DH → Prop) : List D → DEnv → DH → Prop
  | [], ρ, O => gd O ∧ E.nx ρ O
  | d :: ds, ρ, O => gd O ∧ g d ρ fun ρ1 => b { E with nx := forGo g b E gd ds, ct := forGo g b E gd ds, bk := E.nx } ρ1 O
def dFor (wi : TDI) (g : DG) (b : TDS) : TDS := fun E ρ O => wi ρ O (fun ds gd O1 => forGo g b E gd ds ρ O1) fun c f O' => E.ex c f ρ O'
theorem up_for {K : PySem.W.Frag} {vs : List Nat} {wi : TDI} {g : DG} {b : TDS} : ∀ E σ H, upS K W (dFor wi g b) E σ H → tFor (upI K W wi) (upG K vs g) (upS K W b) E σ H := fun E σ H v => by
  obtain ⟨F, ρ, O, Dd, ok, env, td, x⟩ := v
  refine ⟨F, ρ, O, _, _, ok, env, td, fun J H' F' ds gd O' e ok' it q => ?_, x.xr env⟩
  refine ⟨fun i m σ1 H1 => ∃ F1 ρ1 O1, Same F' F1 ∧ OkS K H1 F1 O1 ∧ EnvOk K F1 σ1 ρ1 ∧ m = ds.length - i ∧ i ≤ ds.length ∧ forGo g b Dd gd (ds.drop i) ρ1 O1, ⟨_, F', ρ, O', Same.refl _, ok', env.mono e, rfl, Nat.zero_le _, q⟩, fun i m σ1 H1 hw => ?_⟩
  obtain ⟨F1, ρ1, O1, e1, ok1, env1, hm, hi, q1⟩ := hw
  cases hd : ds[i]? with
  | none =>
    have hl : ds.length ≤ i := List.getElem?_eq_none_iff.mp hd
    rw [List.drop_eq_nil_of_le hl] at q1
    exact .inl ⟨(it H1 F1 O1 e1 ok1 q1.1 i).2 hl, x.nx σ1 H1 F1 ρ1 O1 (e.trans e1) ok1 env1 q1.2⟩
  | some d =>
    obtain ⟨hlt, hget⟩ := List.getElem?_eq_some_iff.mp hd
    rw [List.drop_eq_getElem_cons hlt, hget] at q1
    obtain ⟨g1, g2⟩ := (it H1 F1 O1 e1 ok1 q1.1 i).1 d hd
    have q1 := q1.2
    refine .inr ⟨g1, fun σ2 H2 => ∃ F2 ρ2 O2, Same F' F2 ∧ OkS K H2 F2 O2 ∧ EnvOk K F2 σ2 ρ2 ∧ forGo g b Dd gd (ds.drop (i + 1)) ρ2 O2, fun σ2 H2 hw2 => ?_, fun xv H2 hy => ?_⟩
    · obtain ⟨F2, ρ2, O2, a1, a2, a3, a4⟩ := hw2
      exact ⟨ds.length - (i + 1), by omega, F2, ρ2, O2, a1, a2, a3, rfl, hlt, a4⟩
    · have fin : ∀ F2, Same F1 F2 → OkS K H2 F2 O1 → Rep K F2 d xv → upG K vs g xv σ1 H2 fun σ2 H3 => upS K W b { E with nx := fun σ2 H2 => ∃ F2 ρ2 O2, Same F' F2 ∧ OkS K H2 F2 O2 ∧ EnvOk K F2 σ2 ρ2 ∧ forGo g b Dd gd (ds.drop (i + 1)) ρ2 O2, ct := fun σ2 H2 => ∃ F2 ρ2 O2, Same F' F2 ∧ OkS K H2 F2 O2 ∧ EnvOk K F2 σ2 ρ2 ∧ forGo g b Dd gd (ds.drop (i + 1)) ρ2 O2, bk := E.nx } σ2 H3 := fun F2 e2 ok2 rd => by
        refine ⟨F2, ρ1, d, _, ok2.ex, env1.mono e2, rd, q1, fun σ2 ρ2 env2 _ q2 => ?_⟩
        have x2 := x.mono ((e.trans e1).trans e2)
        exact ⟨F2, ρ2, O1, _, ok2, env2, q2, ⟨fun σ3 H3 F3 ρ3 O3 e3 ok3 env3 q3 => ⟨F3, ρ3, O3, (e1.trans e2).trans e3, ok3, env3, q3⟩, x2.nx, fun σ3 H3 F3 ρ3 O3 e3 ok3 env3 q3 => ⟨F3, ρ3, O3, (e1.trans e2).trans e3, ok3, env3, q3⟩, x2.rt, x2.ex⟩⟩
      rcases g2 xv H2 hy with ⟨rfl, rd⟩ | ⟨p, o, hp, rfl, rd⟩
      · exact fin F1 (Same.refl _) ok1 rd
      · obtain ⟨ok2, e2⟩ := ok1.lay hp o
        exact fin _ e2 ok2 rd
theorem ds_for {vs : List Nat} {tg iter : Expr} {body : List Stmt} {wi : TDI} {g : DG} {b : TDS} (hp : PassesOwn (model X.prog X.w) X.A X.env X.xe) (hc : X.calm = true) (hi : DI X W tg iter wi) (hg : GP X vs tg g) (hb : DSs X W body b)
    (hs : ∀ x, foldedSetIterable iter X.env x = pure x := by intro _; rfl) : DS X W (.For tg iter body [] pos) (dFor wi g b) := ps_imp (ps_for hp hc hi hg hb hs) up_for
/-! ### while -/
def whGo (c : TDT) (b : TDS) (E : DEnds) : Nat → DEnv → DH → Prop
  | 0, _, _ => False
  | n + 1, ρ, O => c ρ O (fun k O1 => match k with
    | true => b { E with nx := whGo c b E n, ct := whGo c b E n, bk := E.nx } ρ O1
    | false => E.nx ρ O1) fun c f O' => E.ex c f ρ O'
def dWhile (c : TDT) (b : TDS) : TDS := fun E ρ O => ∃ n, whGo c b E n ρ O
theorem up_while {K : PySem.W.Frag} {c : TDT} {b : TDS} : ∀ E σ H, upS K W (dWhile c b) E σ H → tWhile (upT K W c) (upS K W b) E σ H := fun E σ H v => by
  obtain ⟨F, ρ, O, Dd, ok, env, ⟨n, td⟩, x⟩ := v
  refine ⟨fun m σ1 H1 => ∃ F1 ρ1 O1, Same F F1 ∧ OkS K H1 F1 O1 ∧ EnvOk K F1 σ1 ρ1 ∧ whGo c b Dd m ρ1 O1, ⟨n, F, ρ, O, Same.refl _, ok, env, td⟩, fun m σ1 H1 hw => ?_⟩
  obtain ⟨F1, ρ1, O1, e1, ok1, env1, q1⟩ := hw
  cases m with
  | zero => exact q1.elim
  | succ m =>
    refine ⟨F1, ρ1, O1, _, _, ok1, env1, q1, fun k H2 F2 O2 e2 ok2 q2 => ?_, (x.mono e1).xr env1⟩
    cases k with
    | false => exact iteF (x.nx σ1 H2 F2 ρ1 O2 (e1.trans e2) ok2 (env1.mono e2) q2)
    | true =>
      refine iteT ⟨fun σ2 H2 => ∃ F2 ρ2 O2, Same F F2 ∧ OkS K H2 F2 O2 ∧ EnvOk K F2 σ2 ρ2 ∧ whGo c b Dd m ρ2 O2, fun σ2 H2 hw2 => ⟨m, Nat.lt_succ_self m, hw2⟩, ?_⟩
      have x2 := x.mono (e1.trans e2)
      exact ⟨F2, ρ1, O2, _, ok2, env1.mono e2, q2, ⟨fun σ3 H3 F3 ρ3 O3 e3 ok3 env3 q3 => ⟨F3, ρ3, O3, (e1.trans e2).trans e3, ok3, env3, q3⟩, x2.nx, fun σ3 H3 F3 ρ3 O3 e3 ok3 env3 q3 => ⟨F3, ρ3, O3, (e1.trans e2).trans e3, ok3, env3, q3⟩, x2.rt, x2.ex⟩⟩
theorem ds_while {c : Expr} {body : List Stmt} {tc : TDT} {b : TDS} (hp : PassesOwn (model X.prog X.w) X.A X.env X.xe) (hc : DT X W c tc) (hb : DSs X W body b) : DS X W (.While c body [] pos) (dWhile tc b) := ps_imp (ps_while hp hc hb) up_while
end
end Dx
namespace Dx
open PySem L2
/-! ### list comprehensions -/
def dwipe (ρ : DEnv) : List Nat → DEnv
  | [] => ρ
  | i :: r => (dwipe ρ r).set i none
theorem EnvOk.wipe {K : PySem.W.Frag} {F : Hp} {σ : L2.St} {ρ : DEnv} (h : EnvOk K F σ ρ) : ∀ vs, EnvOk K F (L2.wipe σ vs) (dwipe ρ vs)
  | [] => h
  | i :: r => (EnvOk.wipe h r).unset i none
/-- what a turn makes: the element's place and value; ρ the slots around, wiped; the growing list stands at a -/
def lcGo (a : Addr) (g : DG) (tt : TDT) (te : TD) (ρ : DEnv) (E : XD) (gd : DH → Prop) (Q : List D → DH → Prop) : List D → List D → DH → Prop
  | [], acc, O => gd O ∧ Q acc O
  | d :: ds, acc, O => gd O ∧ g d ρ fun ρ1 => tt ρ1 O (fun k O1 => match k with
    | true => te ρ1 O1 (fun y O2 => O2 a = some (.lst acc) ∧ acc.length < sizeLine ∧ lcGo a g tt te ρ E gd Q ds (acc ++ [y]) (updO O2 a (.lst (acc ++ [y])))) E
    | false => O1 a = some (.lst acc) ∧ lcGo a g tt te ρ E gd Q ds acc O1) E
abbrev ENo : XD := fun _ _ _ => False
def dLcM (wi : TDI) (g : DG) (tt : TDT) (te : TD) (vs : List Nat) : TD := fun ρ O Q E => wi ρ O (fun ds gd O1 => ∀ a, O1 a = none → lcGo a g tt te (dwipe ρ vs) ENo gd (fun _ O2 => Q (.ref a) O2) ds [] (updO O1 a (.lst []))) E
def dLc (wi : TDI) (g : DG) (tt : TDT) (te : TD) (vs : List Nat) : TD := fun ρ O Q E => wi ρ O (fun ds gd O1 => ∀ a, O1 a = none → lcGo a g tt te (dwipe ρ vs) ENo gd (fun acc O2 => O2 a = some (.lst acc) ∧ ∃ O3, Sub O3 O2 ∧ O3 a = none ∧ Q (.lst acc) O3) ds [] (updO O1 a (.lst []))) E
def dYes : TDT := fun _ O Q _ => Q true O
abbrev WNo : WX := fun _ _ _ _ => False
section
variable {K : PySem.W.Frag} {W : WX} {wi : TDI} {g : DG} {tt : TDT} {te : TD} {vs : List Nat}
theorem up_lcG (fin : DEnv → DH → QD → Addr → List D → DH → Prop)
    (hfin : ∀ {H F : Hp} {O2 O0 : DH} {ρ : DEnv} {Qd : QD} {a : Addr} {acc : List D} {Q : VK} {F0 : Hp}, Same F0 F → OkS K H F O2 → fin ρ O0 Qd a acc O2 → (∀ v H' F' d O', Same F0 F' → Rep K F' d v → OkS K H' F' O' → Qd d O' → Q v H') → Q (.ref a) H) :
    ∀ σ H Q, (∃ F ρ O Qd Ed, OkS K H F O ∧ EnvOk K F σ ρ ∧ wi ρ O (fun ds gd O1 => ∀ a, O1 a = none → lcGo a g tt te (dwipe ρ vs) ENo gd (fin ρ O1 Qd a) ds [] (updO O1 a (.lst []))) Ed ∧ (∀ v H' F' d O', Same F F' → Rep K F' d v → OkS K H' F' O' → Qd d O' → Q v H') ∧ XRel K W F σ Ed) →
      tLc (upI K W wi) (upG K vs g) (upT K WNo tt) (up K WNo te) vs σ H Q := fun σ H Q u => by
  obtain ⟨F, ρ, O, Qd, Ed, ok, env, td, k, xr⟩ := u
  refine ⟨F, ρ, O, _, Ed, ok, env, td, fun J H' F' ds gd O' e ok' it q => ?_, xr⟩
  intro p hp
  have q0 := q p (ok'.freeO hp)
  have okp : OkS K (upd H' p (.lst [])) F' (updO O' p (.lst [])) := ok'.layM (m := .lst []) hp ⟨[], upd_same, .nil⟩
  refine ⟨fun i m H1 => ∃ F1 O1 acc, Same F' F1 ∧ OkS K H1 F1 O1 ∧ m = ds.length - i ∧ i ≤ ds.length ∧ O1 p = some (.lst acc) ∧ lcGo p g tt te (dwipe ρ vs) ENo gd (fin ρ O' Qd p) (ds.drop i) acc O1, ⟨_, F', _, [], Same.refl _, okp, rfl, Nat.zero_le _, updO_same, q0⟩, fun i m H1 hw => ?_⟩
  obtain ⟨F1, O1, acc, e1, ok1, hm, hi, ha, q1⟩ := hw
  cases hd : ds[i]? with
  | none =>
    have hl : ds.length ≤ i := List.getElem?_eq_none_iff.mp hd
    rw [List.drop_eq_nil_of_le hl] at q1
    exact .inl ⟨(it H1 F1 O1 e1 ok1 q1.1 i).2 hl, hfin (e.trans e1) ok1 q1.2 k⟩
  | some d =>
    obtain ⟨hlt, hget⟩ := List.getElem?_eq_some_iff.mp hd
    rw [List.drop_eq_getElem_cons hlt, hget] at q1
    obtain ⟨g1, g2⟩ := (it H1 F1 O1 e1 ok1 q1.1 i).1 d hd
    have q1 := q1.2
    refine .inr ⟨g1, fun H2 => ∃ F2 O2 acc2, Same F' F2 ∧ OkS K H2 F2 O2 ∧ O2 p = some (.lst acc2) ∧ lcGo p g tt te (dwipe ρ vs) ENo gd (fin ρ O' Qd p) (ds.drop (i + 1)) acc2 O2, fun H2 hw2 => ?_, fun xv H2 hy => ?_⟩
    · obtain ⟨F2, O2, acc2, a1, a2, a3, a4⟩ := hw2
      exact ⟨ds.length - (i + 1), by omega, F2, O2, acc2, a1, a2, rfl, hlt, a3, a4⟩
    · have fin2 : ∀ F2, Same F1 F2 → OkS K H2 F2 O1 → Rep K F2 d xv → upG K vs g xv (L2.wipe σ vs) H2 fun σ2 H2 => L2.wipe σ2 vs = L2.wipe σ vs ∧ upT K WNo tt σ2 H2 fun b H3 => if b = true then up K WNo te σ2 H3 fun y H4 => ∃ acc, H4 p = some (.lst acc) ∧ acc.length < sizeLine ∧ (fun H2 => ∃ F2 O2 acc2, Same F' F2 ∧ OkS K H2 F2 O2 ∧ O2 p = some (.lst acc2) ∧ lcGo p g tt te (dwipe ρ vs) ENo gd (fin ρ O' Qd p) (ds.drop (i + 1)) acc2 O2) (upd H4 p (.lst (acc ++ [y]))) else (fun H2 => ∃ F2 O2 acc2, Same F' F2 ∧ OkS K H2 F2 O2 ∧ O2 p = some (.lst acc2) ∧ lcGo p g tt te (dwipe ρ vs) ENo gd (fin ρ O' Qd p) (ds.drop (i + 1)) acc2 O2) H3 := fun F2 e2 ok2 rd => by
        refine ⟨F2, dwipe ρ vs, d, _, ok2.ex, (env.mono ((e.trans e1).trans e2)).wipe vs, rd, q1, fun σ2 ρ2 env2 hw2 q2 => ⟨?_, ?_⟩⟩
        · rw [hw2]
          have ww : ∀ (vs : List Nat) (σ : L2.St), L2.wipe (L2.wipe σ vs) vs = L2.wipe σ vs := by
            intro vs
            have : ∀ (ws : List Nat) (σ : L2.St), (∀ i ∈ ws, i ∈ vs) → L2.wipe (L2.wipe σ ws) vs = L2.wipe σ vs := by
              intro ws
              induction ws with
              | nil => intro σ _; rfl
              | cons i r ih =>
                intro σ h
                show L2.wipe ((L2.wipe σ r).set i none) vs = _
                rw [wipe_set (h i List.mem_cons_self)]
                exact ih σ fun j hj => h j (List.mem_cons_of_mem _ hj)
            exact fun σ => this vs σ fun _ h => h
          exact ww vs σ
        · refine ⟨F2, ρ2, O1, _, _, ok2, env2, q2, fun b H3 F3 O3 e3 ok3 q3 => ?_, fun _ _ _ _ _ _ _ _ _ z => z⟩
          cases b with
          | false => exact iteF ⟨F3, O3, acc, (e1.trans e2).trans e3, ok3, q3.1, q3.2⟩
          | true =>
            refine iteT ⟨F3, ρ2, O3, _, _, ok3, env2.mono e3, q3, fun y H4 F4 dy O4 e4 r4 ok4 q4 => ?_, fun _ _ _ _ _ _ _ _ _ z => z⟩
            obtain ⟨h4, hl4, q4⟩ := q4
            obtain ⟨xs, hx1, hx2⟩ := ok4.lst h4
            exact ⟨xs, hx1, by rw [← hx2.length]; exact hl4, F4, _, acc ++ [dy], ((e1.trans e2).trans e3).trans e4, ok4.put (m := .lst (acc ++ [dy])) h4 ⟨_, upd_same, hx2.append (.cons r4 .nil)⟩, updO_same, q4⟩
      rcases g2 xv H2 hy with ⟨rfl, rd⟩ | ⟨p2, o2, hp2, rfl, rd⟩
      · exact fin2 F1 (Same.refl _) ok1 rd
      · obtain ⟨ok2, e2⟩ := ok1.lay hp2 o2
        exact fin2 _ e2 ok2 rd
theorem up_lc : ∀ σ H Q, up K W (dLc wi g tt te vs) σ H Q → tLc (upI K W wi) (upG K vs g) (upT K WNo tt) (up K WNo te) vs σ H Q :=
  up_lcG (fun _ _ Q a acc O2 => O2 a = some (.lst acc) ∧ ∃ O3, Sub O3 O2 ∧ O3 a = none ∧ Q (.lst acc) O3) fun e ok ⟨h, O3, s, n, q⟩ k => by
    obtain ⟨F2, ok2, e2, r2⟩ := ok.frzL h s n
    exact k _ _ F2 _ O3 (e.trans e2) r2 ok2 q
theorem up_lcM : ∀ σ H Q, up K W (dLcM wi g tt te vs) σ H Q → tLc (upI K W wi) (upG K vs g) (upT K WNo tt) (up K WNo te) vs σ H Q :=
  up_lcG (fun _ _ Q a _ O2 => Q (.ref a) O2) fun e ok q k => k _ _ _ _ _ e (.ref _) ok q
end
section
variable {X : Cx} {W : WX} {elt tg iter : Expr} {ifs : List Expr} {scope : Scope} {own : List (Str × Nat)} {pos : Pos} {wi : TDI} {g : DG} {tt : TDT} {te : TD}
abbrev DTs (X : Cx) (W : WX) (ifs : List Expr) (t : TDT) : Prop := PTs X ifs (upT X.K W t)
theorem dts_nil : DTs X W [] dYes := ⟨fun pins s σ H Q I u => by
  obtain ⟨F, ρ, O, Qd, Ed, ok, env, td, k, _⟩ := u
  exact pts_nil.run pins s σ H Q I (k true H F O (Same.refl F) ok td)⟩
theorem dts_one {c : Expr} {t : TDT} (h : DT X W c t) : DTs X W [c] t := pts_one h
theorem de_lc (hc : X.calm = true) (hN : X.N.Nodup) (hi : DI X W tg iter wi) (ok : BlkOk X.N X.env.scope scope own)
    (hg : ∀ (s : Shared) (H : Hp) (C : Addr) (cl : List (Str × Addr)) (fp : List Addr), GP (X.blk s H scope (compEnvC scope cl C X.env) fp) (own.map (·.2)) tg g) (ht : ∀ (s : Shared) (H : Hp) (C : Addr) (cl : List (Str × Addr)) (fp : List Addr), DTs (X.blk s H scope (compEnvC scope cl C X.env) fp) WNo ifs tt)
    (he : ∀ (s : Shared) (H : Hp) (C : Addr) (cl : List (Str × Addr)) (fp : List Addr), DE (X.blk s H scope (compEnvC scope cl C X.env) fp) WNo elt te) (hs : ∀ x, foldedSetIterable iter X.env x = pure x := by intro _; rfl) :
    DE X W (.ListComp elt [⟨tg, iter, ifs, 0⟩] scope pos) (dLc wi g tt te (own.map (·.2))) := pe_imp (pe_lc hc hN hi ok hg ht he hs) up_lc
theorem de_lcM (hc : X.calm = true) (hN : X.N.Nodup) (hi : DI X W tg iter wi) (ok : BlkOk X.N X.env.scope scope own)
    (hg : ∀ (s : Shared) (H : Hp) (C : Addr) (cl : List (Str × Addr)) (fp : List Addr), GP (X.blk s H scope (compEnvC scope cl C X.env) fp) (own.map (·.2)) tg g) (ht : ∀ (s : Shared) (H : Hp) (C : Addr) (cl : List (Str × Addr)) (fp : List Addr), DTs (X.blk s H scope (compEnvC scope cl C X.env) fp) WNo ifs tt)
    (he : ∀ (s : Shared) (H : Hp) (C : Addr) (cl : List (Str × Addr)) (fp : List Addr), DE (X.blk s H scope (compEnvC scope cl C X.env) fp) WNo elt te) (hs : ∀ x, foldedSetIterable iter X.env x = pure x := by intro _; rfl) :
    DE X W (.ListComp elt [⟨tg, iter, ifs, 0⟩] scope pos) (dLcM wi g tt te (own.map (·.2))) := pe_imp (pe_lc hc hN hi ok hg ht he hs) up_lcM
end
end Dx
namespace Dx
open PySem L2
/-! ### y = [.. for ..] on one line -/
section
variable {X : Cx} {W : WX} {elt tg iter : Expr} {ifs : List Expr} {scope : Scope} {own : List (Str × Nat)} {pos spos py : Pos} {wi : TDI} {g : DG} {tt : TDT} {te : TD} {y : Str}
theorem up_asgT {K : PySem.W.Frag} {te : TE} {td : TD} {i : Nat} (h : ∀ σ H Q, up K W td σ H Q → te σ H Q) : ∀ E σ H, upS K W (dAsg td (gN i)) E σ H → tAsg te (gName i) E σ H := fun E σ H v => by
  obtain ⟨F, ρ, O, Dd, ok, env, t, x⟩ := v
  exact h σ H _ ⟨F, ρ, O, _, _, ok, env, t, fun v H' F' d O' e r ok' q => x.nx _ H' F' _ O' e ok' ((env.mono e).set r i) q, x.xr env⟩
theorem ds_setLc {i : Nat} (hc : X.calm = true) (hN : X.N.Nodup) (hi : DI X W tg iter wi) (ok : BlkOk X.N X.env.scope scope own)
    (hg : ∀ (s : Shared) (H : Hp) (C : Addr) (cl : List (Str × Addr)) (fp : List Addr), GP (X.blk s H scope (compEnvC scope cl C X.env) fp) (own.map (·.2)) tg g) (ht : ∀ (s : Shared) (H : Hp) (C : Addr) (cl : List (Str × Addr)) (fp : List Addr), DTs (X.blk s H scope (compEnvC scope cl C X.env) fp) WNo ifs tt)
    (he : ∀ (s : Shared) (H : Hp) (C : Addr) (cl : List (Str × Addr)) (fp : List Addr), DE (X.blk s H scope (compEnvC scope cl C X.env) fp) WNo elt te)
    (hy : X.N[i]? = some y := by rfl) (hyl : X.env.scope.names.lookup y = some .local := by rfl) (sw : swapsWith (.ListComp elt [⟨tg, iter, ifs, 0⟩] scope pos) (some (.Name y py)) spos.line X.env = pure true := by exact sw_true rfl rfl rfl (by decide +kernel)) (hs : ∀ x, foldedSetIterable iter X.env x = pure x := by intro _; rfl) :
    DS X W (.Assign [.Name y py] (.ListComp elt [⟨tg, iter, ifs, 0⟩] scope pos) spos) (dAsg (dLc wi g tt te (own.map (·.2))) (gN i)) := ps_imp (ps_setLc hc hN hy hyl sw hi ok hg ht he hs) (up_asgT up_lc)
theorem ds_setLcM {i : Nat} (hc : X.calm = true) (hN : X.N.Nodup) (hi : DI X W tg iter wi) (ok : BlkOk X.N X.env.scope scope own)
    (hg : ∀ (s : Shared) (H : Hp) (C : Addr) (cl : List (Str × Addr)) (fp : List Addr), GP (X.blk s H scope (compEnvC scope cl C X.env) fp) (own.map (·.2)) tg g) (ht : ∀ (s : Shared) (H : Hp) (C : Addr) (cl : List (Str × Addr)) (fp : List Addr), DTs (X.blk s H scope (compEnvC scope cl C X.env) fp) WNo ifs tt)
    (he : ∀ (s : Shared) (H : Hp) (C : Addr) (cl : List (Str × Addr)) (fp : List Addr), DE (X.blk s H scope (compEnvC scope cl C X.env) fp) WNo elt te)
    (hy : X.N[i]? = some y := by rfl) (hyl : X.env.scope.names.lookup y = some .local := by rfl) (sw : swapsWith (.ListComp elt [⟨tg, iter, ifs, 0⟩] scope pos) (some (.Name y py)) spos.line X.env = pure true := by exact sw_true rfl rfl rfl (by decide +kernel)) (hs : ∀ x, foldedSetIterable iter X.env x = pure x := by intro _; rfl) :
    DS X W (.Assign [.Name y py] (.ListComp elt [⟨tg, iter, ifs, 0⟩] scope pos) spos) (dAsg (dLcM wi g tt te (own.map (·.2))) (gN i)) := ps_imp (ps_setLc hc hN hy hyl sw hi ok hg ht he hs) (up_asgT up_lcM)
end
/-! ### defs -/
abbrev SpD := List D → DH → QD → XD → Prop
def upF (K : PySem.W.Frag) (sd : SpD) : Sp := fun vs H Q E => ∃ F O ds Qd Ed, OkS K H F O ∧ RepA K F ds vs ∧ sd ds O Qd Ed ∧ (∀ v H' F' d O', Same F F' → Rep K F' d v → OkS K H' F' O' → Qd d O' → Q v H') ∧
  (∀ cls dd H' F' fs O', Same F F' → ExcRep K F' dd fs → OkS K H' F' O' → Ed cls fs O' → E cls dd H')
/-- a def keeps its promise, where nothing is being shown by repr -/
structure FnG (P : Program) (w : World) (K : PySem.W.Frag) (mg : Str → Option Value) (base : Heap) (k : Nat) (f : Addr) (fd : FuncData) (ps : List Str) (sd : SpD) : Prop where
  len : ∀ ds O Q E, sd ds O Q E → ds.length = ps.length
  run : ∀ (A : Around) (outer : List Env) (s : Shared) (H : Hp) (args : Args) (us : List Value) (vs : List V) (Q : VK) (E : XK), Room k A → A.guards = some [] → Env0 P w K mg base A outer s H → BindsTo s fd args (ps.zip us) → Vals vs us → upF K sd vs H Q E →
    codeAny (model P w) A (.call (.ref f) args) (CR (L2.CX P w) outer P w H s Q E) s
section
variable {P : Program} {w : World} {K : PySem.W.Frag} {mg : Str → Option Value} {base : Heap} {k j : Nat} {f : Addr} {fd : FuncData} {ps : List Str} {sd sd' : SpD}
theorem FnG.up_ (G : FnG P w K mg base j f fd ps sd) (h : j ≤ k) : FnG P w K mg base k f fd ps sd := ⟨G.len, fun A outer s H args us vs Q E hr => G.run A outer s H args us vs Q E (hr.mono h)⟩
theorem FnG.imp (G : FnG P w K mg base k f fd ps sd) (h : ∀ ds O Q E, sd' ds O Q E → sd ds O Q E) : FnG P w K mg base k f fd ps sd' :=
  ⟨fun ds O Q E q => G.len ds O Q E (h _ _ _ _ q), fun A outer s H args us vs Q E hr hg he hb hv hs => G.run A outer s H args us vs Q E hr hg he hb hv (by
    obtain ⟨F, O, ds, Qd, Ed, h1, h2, h3, h4, h5⟩ := hs
    exact ⟨F, O, ds, Qd, Ed, h1, h2, h _ _ _ _ h3, h4, h5⟩)⟩
end
/-- where a def's body stands -/
abbrev dX (P : Program) (w : World) (K : PySem.W.Frag) (mg : Str → Option Value) (base : Heap) (N : List Str) (qual : Str) (scope : Scope) (f : Addr) (cdv : Value) (A : Around) (outer : List Env) (s : Shared) (H : Hp) (E : XK) : Cx := cxOf (L2.CX P w) P w K mg base N qual scope f cdv A outer s H E
abbrev wE (E : XK) : WX := fun cls d _ H => E cls d H
def Der (P : Program) (w : World) (K : PySem.W.Frag) (mg : Str → Option Value) (base : Heap) (N : List Str) (qual : Str) (scope : Scope) (body : List Stmt) (k : Nat) (td : TDS) : Prop :=
  ∀ (f : Addr) (cdv : Value) (A : Around) (outer : List Env) (s : Shared) (H : Hp) (E : XK), Room k (dX P w K mg base N qual scope f cdv A outer s H E).A → (dX P w K mg base N qual scope f cdv A outer s H E).A.guards = some [] →
    DSs (dX P w K mg base N qual scope f cdv A outer s H E) (wE E) body td
def ends (Q : QD) (E : XD) : DEnds where
  nx := fun _ O => ∃ O2, Sub O2 O ∧ Q .non O2
  rt := Q
  bk := fun _ _ => False
  ct := fun _ _ => False
  ex := fun c f _ O => ∃ O2, Sub O2 O ∧ E c f O2
def dstart (n : Nat) (ds : List D) : DEnv := ds.map some ++ List.replicate (n - ds.length) none
theorem start_env {K : PySem.W.Frag} {F : Hp} {N : List Str} {ds : List D} {vs : List V} (r : RepA K F ds vs) : EnvOk K F (L2.start N vs) (dstart N.length ds) := by
  refine ⟨?_, fun i d h => ?_⟩
  · unfold L2.start dstart
    simp [r.length]
  · unfold dstart at h
    unfold L2.start
    by_cases hi : i < ds.length
    · rw [List.getElem?_append_left (by simpa using hi)] at h
      rw [List.getElem?_append_left (by rw [List.length_map, ← r.length]; exact hi)]
      rw [List.getElem?_map] at h ⊢
      cases hd : ds[i]? with
      | none => rw [hd] at h; cases h
      | some d' =>
        rw [hd] at h
        cases h
        obtain ⟨v, hv, rv⟩ := r.get hd
        exact ⟨v, by rw [hv]; rfl, rv⟩
    · rw [List.getElem?_append_right (by simpa using hi), List.getElem?_replicate] at h
      split at h <;> cases h
section
variable {P : Program} {w : World} {K : PySem.W.Frag} {mg : Str → Option Value} {base : Heap} {k : Nat} {f : Addr} {fd : FuncData} {x qual : Str} {params : Arguments} {body : List Stmt} {scope : Scope} {dvs : List V} {kws : List (Str × V)} {N ps : List Str} {sd : SpD} {td : TDS}
/-- THE RULE for a def: its body's reading td, and that td keeps the promise -/
theorem FnG.of (F : FunD K x qual params body scope dvs kws f fd) (S : FnScope N ps scope) (hd : Der P w K mg base N qual scope body k td) (len : ∀ ds O Q E, sd ds O Q E → ds.length = ps.length)
    (hr : ∀ ds O Q E, sd ds O Q E → td (ends Q E) (dstart N.length ds) O) : FnG P w K mg base (k + 1) f fd ps sd := by
  obtain ⟨oc, od, dV, kV, doc, pm, an, cdv, ct, osl, rfl, lk, hcd, _, _⟩ := F.ex
  refine ⟨len, fun A outer s H args us vs Q E rm gd e0 hb r hsp => ?_⟩
  obtain ⟨F0, O, ds, Qd, Ed, ok, ra, q, k1, k2⟩ := hsp
  have hl : vs.length = ps.length := by rw [← ra.length]; exact len _ _ _ _ q
  have KX : K.In s.heap := e0.mod.kin.keeps fun b o e => (e0.bs b o e).1
  have lim : s.heap.NoLimit := e0.mod.nolimit.keeps fun b o e => (e0.bs b o e).1
  have kinds : ∀ y ∈ ps.zip us, scope.names.lookup y.1 = some .local ∨ (scope.names.lookup y.1 = some .cell ∧ ((cellsFrom (s.heap.objs.size + 1) scope.names []).lookup y.1).isSome = true) := by
    rintro ⟨n, v⟩ hy
    cases S.par n (List.of_mem_zip hy).1 with
    | inl z => exact .inl z
    | inr z => exact .inr ⟨z, PySem.W.cellsFrom_some _ _ _ (.inl z)⟩
  refine codeAny_call_function rm.depth (KX _ _ lk) rfl S.co S.gen rfl (PySem.W.codeRec_of KX hcd) (hb _ _ _ _ (wpAny_newFunctionEnv_cells S.kind kinds fun env he s1 ic => ?_))
  subst he
  refine ⟨lim.keeps ic.toInCall.keep, codeAny_func ?_⟩
  have I := inv_start (CX := L2.CX P w) (E := E) S rm.hd e0 hl r ic
  have go := (hd f cdv A outer s H E (rm.deeper _) gd).run [] s1 (L2.start N vs) H { nx := fun _ H' => Q .non H', rt := Q } I
    ⟨F0, dstart N.length ds, O, ends Qd Ed, ok, start_env ra, hr ds O Qd Ed q, ⟨fun σ' H' F' ρ' O' e ok' _ ⟨O2, s, q⟩ => k1 .non H' F' .non O2 e .non (ok'.less s) q, fun _ _ _ _ _ _ _ _ z => z, fun _ _ _ _ _ _ _ _ z => z, fun v H' F' d O' e r ok' q => k1 v H' F' d O' e r ok' q,
      fun cls dd σ' H' F' fs ρ' O' e r ok' _ ⟨O2, s, q⟩ => k2 cls dd H' F' fs O2 e r (ok'.less s) q⟩⟩
  refine wpAny_mono go (fun fl s' hs => ?_) fun e s' hs => hs
  cases fl with
  | ret u => obtain ⟨v, σ', H', J, rv, q⟩ := hs; exact ⟨v, H', J.os, J.bare, J.base, J.hok, rv, q⟩
  | next => obtain ⟨σ', H', J, q⟩ := hs; exact ⟨V.non, H', J.os, J.bare, J.base, J.hok, rfl, q⟩
  | brk => obtain ⟨_, _, _, q⟩ := hs; exact q.elim
  | cont => obtain ⟨_, _, _, q⟩ := hs; exact q.elim
end
/-! ### how arguments come to parameters -/
theorem RepA.pair {K : PySem.W.Frag} {F : Hp} : ∀ {ds : List D} {vs : List V}, RepA K F ds vs → Paired (Rep K F) ds vs
  | _, _, .nil => .nil
  | _, _, .cons h r => .cons h (RepA.pair r)
theorem RepA.ofP {K : PySem.W.Frag} {F : Hp} : ∀ {ds : List D} {vs : List V}, Paired (Rep K F) ds vs → RepA K F ds vs
  | _, _, .nil => .nil
  | _, _, .cons h r => .cons h (RepA.ofP r)
abbrev Mix := {α : Type} → List α → List α → List α → List α
/-- n positional values, keywords named ks; g puts them, and the defaults, in the parameters' order -/
structure Bnd (K : PySem.W.Frag) (fd : FuncData) (ps : List Str) (n : Nat) (ks : List Str) (gD : List D → List D → List D) : Prop where
  to : ∀ (F : Hp) (ds es : List D) (vs zs : List V) (us ws : List Value) (s : Shared), K.In s.heap → RepA K F ds vs → Vals vs us → ds.length = n → RepA K F es zs → Vals zs ws → es.length = ks.length →
    ∃ vs' us', RepA K F (gD ds es) vs' ∧ Vals vs' us' ∧ BindsTo s fd ⟨us, ks.zip ws⟩ (ps.zip us')
section
variable {K : PySem.W.Frag} {x qual : Str} {params : Arguments} {body : List Stmt} {scope : Scope} {dvs : List V} {kws : List (Str × V)} {f : Addr} {fd : FuncData} {ps : List Str}
theorem bnd0 (F : FunD K x qual params body scope [] kws f fd) (n : Nat) (ks : List Str) (g : Mix)
    (hrel : ∀ {α β : Type} {R : α → β → Prop} {a c : List α} {b d : List β}, Paired R a b → a.length = n → Paired R c d → c.length = ks.length → Paired R (g a [] c) (g b [] d))
    (h : ∀ (kV doc pm : Value) (an : Option Addr) (cdv ct : Value) (us ws : List Value), us.length = n → ws.length = ks.length → bindArgs (PySem.W.fnOf x qual params body scope .none kV doc pm an cdv ct) ⟨us, ks.zip ws⟩ = pure (ps.zip (g us [] ws))) :
    Bnd K fd ps n ks (fun ds es => g ds [] es) := ⟨fun F0 ds es vs zs us ws s X r1 v1 l1 r2 v2 l2 => by
  obtain ⟨oc, od, dV, kV, doc, pm, an, cdv, ct, osl, rfl, lk, hcd, hD, hK⟩ := F.ex
  rcases hD with ⟨_, rfl⟩ | ⟨e, _⟩
  · have l1' : vs.length = n := by rw [← r1.length]; exact l1
    have l2' : zs.length = ks.length := by rw [← r2.length]; exact l2
    exact ⟨_, _, .ofP (hrel r1.pair l1 r2.pair l2), hrel v1 l1' v2 l2', .of_eq (h kV doc pm an cdv ct us ws (by rw [← v1.length]; exact l1') (by rw [← v2.length]; exact l2'))⟩
  · exact absurd rfl e⟩
theorem bnd1 (F : FunD K x qual params body scope dvs kws f fd) (dds : List D) (hdd : ∀ F, RepA K F dds dvs) (hne : dvs ≠ []) (n : Nat) (ks : List Str) (g : Mix)
    (hrel : ∀ {α β : Type} {R : α → β → Prop} {a c e : List α} {b d e' : List β}, Paired R a b → a.length = n → Paired R e e' → e.length = dvs.length → Paired R c d → c.length = ks.length → Paired R (g a e c) (g b e' d))
    (h : ∀ (T : Addr) (kV doc pm : Value) (an : Option Addr) (cdv ct : Value) (us its ws : List Value), us.length = n → its.length = dvs.length → ws.length = ks.length →
      ∃ k, bindArgs (PySem.W.fnOf x qual params body scope (.ref T) kV doc pm an cdv ct) ⟨us, ks.zip ws⟩ = seqItems? (.ref T) >>= k ∧ k (some its.toArray) = pure (ps.zip (g us its ws))) :
    Bnd K fd ps n ks (fun ds es => g ds dds es) := ⟨fun F0 ds es vs zs us ws s X r1 v1 l1 r2 v2 l2 => by
  obtain ⟨oc, od, dV, kV, doc, pm, an, cdv, ct, osl, rfl, lk, hcd, hD, hK⟩ := F.ex
  rcases hD with ⟨e, _⟩ | ⟨_, T, o, its, m, rfl, lT, oT, rT⟩
  · exact absurd e hne
  · have l1' : vs.length = n := by rw [← r1.length]; exact l1
    have l2' : zs.length = ks.length := by rw [← r2.length]; exact l2
    have l3 : its.length = dvs.length := rT.length.symm
    obtain ⟨k, e1, e2⟩ := h T kV doc pm an cdv ct us its ws (by rw [← v1.length]; exact l1') l3 (by rw [← v2.length]; exact l2')
    have l4 : dds.length = dvs.length := (hdd F0).length
    refine ⟨_, _, .ofP (hrel r1.pair l1 (hdd F0).pair l4 r2.pair l2), hrel v1 l1' rT rfl v2 l2', BindsTo.of_looks fun M => ?_⟩
    rw [e1]
    exact looks_items X lT oT (.of_pure e2)⟩
end
/-! ### calls of own defs -/
def dNoK : TDA := dNil
/-- f(..): positional arguments, keywords -/
def dCall (sd : SpD) (n m : Nat) (gD : List D → List D → List D) (tr tk : TDA) : TD := fun ρ O Q E => tr ρ O (fun ds O1 => tk ρ O1 (fun es O2 => ds.length = n ∧ es.length = m ∧ sd (gD ds es) O2 Q E) E) E
abbrev DK (X : Cx) (W : WX) (kws : List Keyword) (td : TDA) : Prop := PK X kws (upA X.K W td)
section
variable {X : Cx} {W : WX} {k n : Nat} {f C : Addr} {fd : FuncData} {ps ks : List Str} {sd : SpD} {x m : Str} {p pos apos kpos : Pos} {e o : Expr} {es : List Expr} {kws : List Keyword} {ta : TD} {tr tk : TDA} {gD : List D → List D → List D} {nm : Option Str}
theorem dk_nil : DK X W [] dNil := ⟨fun pos pins s σ H Q I u => by
  obtain ⟨F, ρ, O, Qd, Ed, ok, env, td, k, xr⟩ := u
  exact pk_nil.run pos pins s σ H Q I (k [] H F [] O (Same.refl F) .nil ok td)⟩
theorem dk_cons (ha : DE X W e ta) (hr : DK X W kws tr) : DK X W (⟨nm, e, kpos⟩ :: kws) (dCons ta tr) := ⟨fun pos pins s σ H Q I u => by
  refine (pk_cons (nm := nm) (kpos := kpos) ha hr).run pos pins s σ H Q I ?_
  obtain ⟨F, ρ, O, Qd, Ed, ok, env, td, k, xr⟩ := u
  refine ⟨F, ρ, O, _, Ed, ok, env, td, fun v H1 F1 d O1 e1 r1 ok1 q1 => ?_, xr⟩
  exact ⟨F1, ρ, O1, _, Ed, ok1, env.mono e1, q1, fun vs H2 F2 ds O2 e2 r2 ok2 q2 => k _ H2 F2 _ O2 (e1.trans e2) (.cons (r1.mono e2) r2) ok2 q2, xr.mono e1⟩⟩
theorem runG {pins : List (Addr × Obj)} {σ : St} {H : Hp} {s : Shared} {Q : VK} {us : List Value} {args : Args} {vs : List V} (G : FnG X.prog X.w X.K X.mg X.base k f fd ps sd) (hr : Room k X.A) (hgd : X.A.guards = some []) (tk : Takes X W)
    (I : Inv X pins σ H s) (b : BindsTo s fd args (ps.zip us)) (r : Vals vs us) (h : upF X.K sd vs H Q (WE W σ)) : codeAny (model X.prog X.w) X.A (.call (.ref f) args) (fun r s' => match r with
      | .ok (.ret u) => EP X pins σ Q u s'
      | .ok _ => False
      | .error e => X.xe e s') s := by
  refine codeAny_mono (G.run X.A X.stack s H args us vs Q (WE W σ) hr hgd I.env0 b r h) fun r s' hq => ?_
  cases r with
  | error e => exact passAt tk σ pins H s e s' I hq
  | ok fl =>
    cases fl with
    | ret u => exact I.after hq
    | next => exact hq
    | brk => exact hq
    | cont => exact hq
/-- the callee by values -/
theorem runGv {pins : List (Addr × Obj)} {σ : St} {H F : Hp} {O : DH} {s : Shared} {us ws : List Value} {vs zs : List V} {ds ees : List D} {Q : VK} {Qd : QD} {Ed : XD} (G : FnG X.prog X.w X.K X.mg X.base k f fd ps sd) (hr : Room k X.A) (hgd : X.A.guards = some []) (tk : Takes X W) (hb : Bnd X.K fd ps n ks gD)
    (I : Inv X pins σ H s) (r : Vals vs us) (rz : Vals zs ws) (ok : OkS X.K H F O) (rd : RepA X.K F ds vs) (re : RepA X.K F ees zs) (hn : ds.length = n) (hm : ees.length = ks.length) (q : sd (gD ds ees) O Qd Ed)
    (k1 : ∀ v H' F' d O', Same F F' → Rep X.K F' d v → OkS X.K H' F' O' → Qd d O' → Q v H') (xr : XRel X.K W F σ Ed) : wpAny (model X.prog X.w) X.A (call (.ref f) us (ks.zip ws)) (EP X pins σ Q) X.xe s := by
  obtain ⟨vs', us', h1, h2, h3⟩ := hb.to F ds ees vs zs us ws s I.kIn rd r hn re rz hm
  refine wpAny_call (codeAny_mono (runG G hr hgd tk I h3 h2 ⟨F, O, _, Qd, Ed, ok, h1, q, k1, fun cls dd H' F' fs O' e r ok q => xr cls dd H' F' fs O' e r ok q⟩) fun r s' hq => ?_)
  cases r with
  | error e => exact hq
  | ok fl =>
    cases fl with
    | ret u => exact hq
    | next => exact hq.elim
    | brk => exact hq.elim
    | cont => exact hq.elim
theorem de_call (G : FnG X.prog X.w X.K X.mg X.base k f fd ps sd) (hr : Room k X.A) (hgd : X.A.guards = some []) (tk : Takes X W) (hg : Gl X x) (hm : X.mg x = some (.ref f)) (hk : PySem.W.keepIn X.K (.ref f) = true) (hb : Bnd X.K fd ps n [] gD) (ha : DA X W (e :: es) tr)
    (hdb : (x == ("__debug__" : Str)) = false := by decide) (he : starEach (e :: es) X.env = (false, eval e X.env) :: starEach es X.env := by rfl) (hpl : (backTo pos (starEach es X.env)).any (·.1) = false := by rfl) :
    DE X W (.Call (.Name x p) (e :: es) [] pos) (dCall sd n 0 gD tr dNil) := ⟨fun pins s σ H Q I u => by
  obtain ⟨F, ρ, O, Qd, Ed, ok, env, td, k1, xr⟩ := u
  refine wpAny_Call_Name_kw (ld_glob I hg hm ?_ hdb)
  refine PySem.W.callWith_K (h₀ := X.base) I.ok.mod.kin hk (thn (ha.run pos pins s σ H (fun vs H1 => ∃ F1 ds O1, Same F F1 ∧ RepA X.K F1 ds vs ∧ OkS X.K H1 F1 O1 ∧ dNil ρ O1 (fun es O2 => ds.length = n ∧ es.length = 0 ∧ sd (gD ds es) O2 Qd Ed) Ed) I ⟨F, ρ, O, _, Ed, ok, env, td, fun vs H1 F1 ds O1 e1 r1 ok1 q1 => ⟨F1, ds, O1, e1, r1, ok1, q1⟩, xr⟩) fun us s1 hq => ?_) he hpl
  obtain ⟨vs, H1, I1, rv, F1, ds, O1, e1, r1, ok1, hn, hz, q⟩ := hq
  exact ⟨I1.kIn, runGv (ks := []) (ws := []) (zs := []) (ees := []) G hr hgd tk hb I1 rv .nil ok1 r1 .nil hn rfl q (fun v H' F' d O' e => k1 v H' F' d O' (e1.trans e)) (xr.mono e1)⟩⟩
theorem de_call0 (G : FnG X.prog X.w X.K X.mg X.base k f fd ps sd) (hr : Room k X.A) (hgd : X.A.guards = some []) (tk : Takes X W) (hg : Gl X x) (hm : X.mg x = some (.ref f)) (hk : PySem.W.keepIn X.K (.ref f) = true) (hb : Bnd X.K fd ps 0 [] gD)
    (hdb : (x == ("__debug__" : Str)) = false := by decide) : DE X W (.Call (.Name x p) [] [] pos) (dCall sd 0 0 gD dNil dNil) := ⟨fun pins s σ H Q I u => by
  obtain ⟨F, ρ, O, Qd, Ed, ok, env, ⟨_, _, q⟩, k1, xr⟩ := u
  refine wpAny_Call_Name_kw (ld_glob I hg hm ?_ hdb)
  exact PySem.W.callWith_K0 I.kIn hk (runGv (ks := []) (us := []) (ws := []) (vs := []) (zs := []) (ds := []) (ees := []) G hr hgd tk hb I .nil .nil ok .nil .nil rfl rfl q k1 xr)⟩
theorem de_callK (G : FnG X.prog X.w X.K X.mg X.base k f fd ps sd) (hr : Room k X.A) (hgd : X.A.guards = some []) (tk0 : Takes X W) (hg : Gl X x) (hm : X.mg x = some (.ref f)) (hk : PySem.W.keepIn X.K (.ref f) = true) (hb : Bnd X.K fd ps n ks gD) (ha : DA X W (e :: es) tr) (hkw : DK X W kws tk)
    (hall : (backToKw pos (keywordEach kws X.env)).all (·.1.isSome) = true := by rfl) (hks : (backToKw pos (keywordEach kws X.env)).filterMap (·.1) = ks := by rfl)
    (hdb : (x == ("__debug__" : Str)) = false := by decide) (he : starEach (e :: es) X.env = (false, eval e X.env) :: starEach es X.env := by rfl)
    (hpl : ((backTo pos (starEach (e :: es) X.env)).any (·.1) || (backToKw pos (keywordEach kws X.env)).any (·.1.isNone)) = false := by rfl) :
    DE X W (.Call (.Name x p) (e :: es) kws pos) (dCall sd n ks.length gD tr tk) := ⟨fun pins s σ H Q I u => by
  obtain ⟨F, ρ, O, Qd, Ed, ok, env, td, k1, xr⟩ := u
  refine wpAny_Call_Name_kw (ld_glob I hg hm ?_ hdb)
  refine PySem.W.callWith_KW (h₀ := X.base) I.ok.mod.kin hk hall (thn (ha.run pos pins s σ H (fun vs H1 => ∃ F1 ds O1, Same F F1 ∧ RepA X.K F1 ds vs ∧ OkS X.K H1 F1 O1 ∧ tk ρ O1 (fun es O2 => ds.length = n ∧ es.length = ks.length ∧ sd (gD ds es) O2 Qd Ed) Ed) I ⟨F, ρ, O, _, Ed, ok, env, td, fun vs H1 F1 ds O1 e1 r1 ok1 q1 => ⟨F1, ds, O1, e1, r1, ok1, q1⟩, xr⟩) fun us s1 hq => ?_) hpl he
  obtain ⟨vs, H1, I1, rv, F1, ds, O1, e1, r1, ok1, q1⟩ := hq
  refine thn (hkw.run pos pins s1 σ H1 (fun zs H2 => ∃ F2 ees O2, Same F1 F2 ∧ RepA X.K F2 ees zs ∧ OkS X.K H2 F2 O2 ∧ ds.length = n ∧ ees.length = ks.length ∧ sd (gD ds ees) O2 Qd Ed) I1 ⟨F1, ρ, O1, _, Ed, ok1, env.mono e1, q1, fun zs H2 F2 ees O2 e2 r2 ok2 q2 => ⟨F2, ees, O2, e2, r2, ok2, q2⟩, xr.mono e1⟩) fun ws s2 hq2 => ?_
  obtain ⟨zs, H2, I2, rz, F2, ees, O2, e2, r2, ok2, hn, hz, q⟩ := hq2
  refine ⟨I2.kIn, ?_⟩
  rw [hks]
  exact runGv G hr hgd tk0 hb I2 rv rz ok2 (r1.mono e2) r2 hn hz q (fun v H' F' d O' e => k1 v H' F' d O' ((e1.trans e2).trans e)) (xr.mono (e1.trans e2))⟩
theorem de_callN (G : FnG X.prog X.w X.K X.mg X.base k f fd ps sd) (hr : Room k X.A) (hgd : X.A.guards = some []) (tk0 : Takes X W) (hg : Gl X x) (hm : X.mg x = some (.ref f)) (hk : PySem.W.keepIn X.K (.ref f) = true) (hb : Bnd X.K fd ps 0 ks gD) (hkw : DK X W kws tk)
    (hall : (backToKw pos (keywordEach kws X.env)).all (·.1.isSome) = true := by rfl) (hks : (backToKw pos (keywordEach kws X.env)).filterMap (·.1) = ks := by rfl)
    (hdb : (x == ("__debug__" : Str)) = false := by decide) (hpl : ((backTo pos (starEach [] X.env)).any (·.1) || (backToKw pos (keywordEach kws X.env)).any (·.1.isNone)) = false := by rfl) :
    DE X W (.Call (.Name x p) [] kws pos) (dCall sd 0 ks.length gD dNil tk) := ⟨fun pins s σ H Q I u => by
  obtain ⟨F, ρ, O, Qd, Ed, ok, env, td, k1, xr⟩ := u
  refine wpAny_Call_Name_kw (ld_glob I hg hm ?_ hdb)
  refine PySem.W.callWith_KW0 (h₀ := X.base) I.ok.mod.kin hk hall ?_ hpl
  refine thn (hkw.run pos pins s σ H (fun zs H2 => ∃ F2 ees O2, Same F F2 ∧ RepA X.K F2 ees zs ∧ OkS X.K H2 F2 O2 ∧ ([] : List D).length = 0 ∧ ees.length = ks.length ∧ sd (gD [] ees) O2 Qd Ed) I ⟨F, ρ, O, _, Ed, ok, env, td, fun zs H2 F2 ees O2 e2 r2 ok2 q2 => ⟨F2, ees, O2, e2, r2, ok2, q2⟩, xr⟩) fun ws s2 hq2 => ?_
  obtain ⟨zs, H2, I2, rz, F2, ees, O2, e2, r2, ok2, hn, hz, q⟩ := hq2
  refine ⟨I2.kIn, ?_⟩
  rw [hks]
  exact runGv (us := []) (vs := []) (ds := []) G hr hgd tk0 hb I2 .nil rz ok2 .nil r2 rfl hz q (fun v H' F' d O' e => k1 v H' F' d O' (e2.trans e)) (xr.mono e2)⟩
end
end Dx
namespace Dx
open PySem L2 PySem.Spec PyProof.Rows
theorem repA_ints {K : PySem.W.Frag} {F : Hp} : ∀ ns : List Int, RepA K F (ns.map D.int) (ns.map V.int)
  | [] => .nil
  | n :: r => .cons (.int n) (repA_ints r)
abbrev noO : DH := fun _ => none
/-- what the law's def is asked -/
def LawSp (sd : SpD) (n : Nat) : Prop := ∀ ns : List Int, ns.length ≤ n → (∀ i ∈ ns, PySem.Builtin.Int.intBits i ≤ 1048576) → sd [.wl (ns.map .int)] noO (fun d _ => d = .bl true) (fun _ _ _ => False)
/-- the law is called, over one heap of what is tracked -/
theorem law_go {P : Program} {w : World} {K : PySem.W.Frag} {mg mb : Str → Option Value} {k : Nat} {fa a : Addr} {fd : FuncData} {x : Str} {sd : SpD} {st : Shared} {vs : List Value} {ns : List Int} {H : Hp}
    (kin : K.In st.heap) (gns : st.heap.Ns mainGlobals mg) (bns : st.heap.Ns builtinsNs mb) (hmb : ∀ y : Str, y ≠ "__name__" → mb y = bootBuiltins y) (lim : st.heap.NoLimit) (ng : st.gens = #[])
    (obj : st.heap.get? a = some { cls := .type "list", data := .seq vs.toArray }) (rm : Room k callerA) (G : ∀ b : Heap, K.In b → b.Ns mainGlobals mg → FnG P w K mg b k fa fd [x] sd)
    (bd : ∀ (s : Shared) (u : Value), BindsTo s fd ⟨[u], []⟩ [(x, u)]) (q : sd [.wl (ns.map .int)] noO (fun d _ => d = .bl true) (fun _ _ _ => False))
    (alone : ∀ b, H b = none ∨ (b = a ∧ K.lookup a = none ∧ H a = some (.frz { cls := .type "list", data := .seq vs.toArray } (.lst (ns.map V.int))))) (sq : SqL K H a (ns.map V.int)) (hok : HOk P w H st.heap) :
    codeAny (model P w) callerA (.call (.ref fa) ⟨[.ref a], []⟩) (fun r s' => r = .ok (.ret (.bool true)) ∧ OldK st.heap s'.heap ∧ s'.os = st.os ∧ AllBare s'.gens) st := by
  have hid : ∀ {b : Addr} {o : Obj}, st.heap.get? b = some o → b ≠ a → (hidT st.heap H).get? b = some o := fun {b o} e ne => hidT_get e (by
    rcases alone b with z | z
    · exact z
    · exact absurd z.1 ne)
  have keepNs : ∀ {b : Addr} {m : Str → Option Value}, st.heap.Ns b m → (hidT st.heap H).Ns b m := fun {b m} z => by
    obtain ⟨o, es, ep, e, dt, more⟩ := z
    refine ⟨o, es, ep, hid e fun eq => ?_, dt, more⟩
    rw [eq, obj] at e
    cases e
    cases (show Data.seq vs.toArray _ = Data.dict es ep from dt)
  have inK : K.In (hidT st.heap H) := fun b o e => by
    rcases alone b with z | ⟨rfl, z, _⟩
    · exact hidT_get (kin b o e) z
    · rw [z] at e; cases e
  have hm : Mod K mg (hidT st.heap H) := ⟨inK, keepNs gns, ⟨mb, keepNs bns, hmb⟩, by obtain ⟨mc, l1, l2⟩ := lim; exact ⟨mc, keepNs l1, l2⟩⟩
  have env : Env0 P w K mg (hidT st.heap H) callerA [] st H := ⟨rfl, hm, fun b o e => of_hidT e, Nat.le_of_eq (hidT_size _ _), trivial, fun b hb => absurd hb (by simp [frs]), hok, .of_eq ng⟩
  have arg : upF K sd [.ref a] H (fun v _ => v = .bl true) (fun _ _ _ => False) :=
    ⟨H, noO, _, _, _, ⟨Same.refl H, fun _ _ z => nomatch z⟩, .cons (.wl sq (repA_ints ns)) .nil, q, fun v H' F' d O' _ r _ e => by subst e; cases r; rfl, fun _ _ _ _ _ _ _ _ _ z => z⟩
  refine codeAny_mono ((G _ inK (keepNs gns)).run callerA [] st H ⟨[.ref a], []⟩ [.ref a] [.ref a] _ _ rm rfl env (bd st (.ref a)) (.cons rfl .nil) arg) fun r s' fin => ?_
  match r, fin with
  | .ok (.ret u), ⟨v, H', os, bare, un, hok', rv, e⟩ =>
    have e' : v = V.bl true := e
    subst e'
    have eu : u = Value.bool true := rv
    subst eu
    refine ⟨rfl, OldK.of_keep fun b o hb => ?_, os, bare⟩
    rcases alone b with z | ⟨rfl, _, z⟩
    · exact un.keep b o hb z (by simp [frs]) (by simp)
    · obtain ⟨g1, _⟩ := hok _ _ z
      obtain ⟨g2, _⟩ := hok' _ _ (un.frzs _ _ _ z)
      rw [hb] at g1
      cases g1
      exact g2
  | .error e, fin => obtain ⟨_, _, _, _, _, _, _, _, _, _, _, _, z⟩ := fin; exact z.elim
/-- the end of a law row over such a promise -/
theorem dwalk {l : PySem.W.OpenLaw} {n k : Nat} {q : Program} {loose : List Str} {XP : (Str → Option Value) → Heap → Prop} {YP : World → Heap → Prop} {d : DefRec} {x : Str}
    (hn : l.most = some n) (hn2 : n ≤ sizeLine) (hdf : d.params.defaults = []) (hr : Room k callerA)
    (F : ∀ (w : World) (mg : Str → Option Value) (fa : Addr) (h : Heap), YP w h → h.Ns mainGlobals mg → mg d.name = some (.ref fa) →
      ∃ (K : PySem.W.Frag) (fd : FuncData) (sd : SpD), K.In h ∧ (∀ (s : Shared) (u : Value), BindsTo s fd ⟨[u], []⟩ [(x, u)]) ∧ LawSp sd n ∧ ∀ base : Heap, K.In base → base.Ns mainGlobals mg → FnG l.prog w K mg base k fa fd [x] sd) :
    PySem.W.WalkO q loose XP YP l.row.toRowW d [] (fun f vs => PySem.call f vs) := by
  refine Att.attach_callB hn hdf fun w s0 st mg mb fa o pm cd doc a vs ns T Y ho hd hcd hmg obj hints len bits ng => ?_
  obtain ⟨K, fd, sd, kin, bd, sp, G⟩ := F w mg fa _ Y T.T.g hmg
  have lv := hints.length
  have rv := vals_ints hints
  have big : ns.length ≤ sizeLine := Nat.le_trans len hn2
  cases hk : K.lookup a with
  | some ob =>
    have e := kin a ob hk
    rw [obj] at e
    cases e
    exact law_go kin T.T.g T.T.b T.T.builtins T.T.nolimit ng obj hr G bd (sp ns len bits) (H := fun _ => none) (fun _ => .inl rfl) (.inr ⟨_, vs.toArray, _, hk, rfl, rfl, rfl, by rw [List.size_toArray, lv]; exact big, by simpa using rv⟩) (fun b u z => nomatch z)
  | none =>
    have at_ : ∀ b, (if b = a then some (HO.frz { cls := .type "list", data := .seq vs.toArray } (.lst (ns.map V.int))) else none) = none ∨ (b = a ∧ K.lookup a = none ∧ (if a = a then some (HO.frz { cls := .type "list", data := .seq vs.toArray } (.lst (ns.map V.int))) else none) = some (HO.frz { cls := .type "list", data := .seq vs.toArray } (.lst (ns.map V.int)))) := fun b => by
      by_cases hb : b = a
      · exact .inr ⟨hb, hk, if_pos rfl⟩
      · exact .inl (if_neg hb)
    refine law_go kin T.T.g T.T.b T.T.builtins T.T.nolimit ng obj hr G bd (sp ns len bits) (H := fun b => if b = a then some (HO.frz { cls := .type "list", data := .seq vs.toArray } (.lst (ns.map V.int))) else none) at_ (.inl (.inr ⟨{ cls := .type "list", data := .seq vs.toArray }, if_pos rfl⟩)) fun b u z => ?_
    rcases at_ b with y | ⟨rfl, _, _⟩
    · exact absurd (y.symm.trans z) (fun q => nomatch q)
    · cases (if_pos rfl).symm.trans z
      exact ⟨obj, by rw [List.length_map]; exact big, vs, _, rv, obj⟩
end Dx
namespace Dx
open PySem L2
section
variable {X : Cx} {W : WX}
theorem call_len3 : CallR X (.builtin "len") (rLen3 X.K) := call_len.or call_lenD
theorem de_globI {x : Str} {i : Int} {pos : Pos} (hg : Gl X x) (hm : ∃ t, X.mg x = some (.int i t)) (hd : (x == ("__debug__" : Str)) = false := by decide) : DE X W (.Name x pos) (dC (.int i)) :=
  let ⟨t, h⟩ := hm; de_glob (v := .int i) hg h ⟨t, rfl⟩ (fun _ => .int i) hd
theorem de_globS {x : Str} {i : Str} {pos : Pos} (hg : Gl X x) (hm : ∃ t, X.mg x = some (.str i t)) (hd : (x == ("__debug__" : Str)) = false := by decide) : DE X W (.Name x pos) (dC (.str i)) :=
  let ⟨t, h⟩ := hm; de_glob (v := .str i) hg h ⟨t, rfl⟩ (fun _ => .str i) hd
theorem dt_chainv {e : Expr} {t : TD} (h : DE X W e t) (he : ∀ whole, isTrue e X.env whole = (do let v ← whole; standAt e.pos; holding [v] (truthy v)) := by intro _; rfl) : DT X W e (dTst t) := dt_val h he
end
end Dx
namespace Dx
open PySem L2
/-! ### reading proofs: laws of the combinators -/
theorem updO_upd {O : DH} {a : Addr} {m m' : MO} : updO (updO O a m) a m' = updO O a m' := by
  funext b; unfold updO; split <;> rfl
theorem updO_comm {O : DH} {a b : Addr} {m m' : MO} (h : a ≠ b) : updO (updO O a m) b m' = updO (updO O b m') a m := by
  funext c
  unfold updO
  by_cases h1 : c = b
  · by_cases h2 : c = a
    · exact absurd (h2.symm.trans h1) h
    · rw [if_pos h1, if_neg h2, if_pos h1]
  · rw [if_neg h1, if_neg h1]
theorem ne_free {O : DH} {a b : Addr} {m : MO} (h : O a = some m) (hb : O b = none) : a ≠ b := fun e => by rw [e, hb] at h; cases h
theorem drop_cons {α : Type} {l r : List α} {d : α} {k : Nat} (e : l.drop k = d :: r) : l[k]? = some d ∧ l.drop (k + 1) = r ∧ k < l.length := by
  have hd : l[k]? = some d := by
    have := congrArg (fun l => l[0]?) e
    simpa [List.getElem?_drop] using this
  have hr : l.drop (k + 1) = r := by
    have := congrArg (List.drop 1) e
    simpa [List.drop_drop] using this
  exact ⟨hd, hr, (List.getElem?_eq_some_iff.mp hd).1⟩
theorem drop_nil {α : Type} {l : List α} {k : Nat} (e : l.drop k = []) (hk : k ≤ l.length) : k = l.length := Nat.le_antisymm hk (by have := congrArg List.length e; rw [List.length_drop] at this; simp at this; omega)
/-- one turn of a comprehension; N: what the next turn is to meet -/
def lcTurn (a : Addr) (g : DG) (tt : TDT) (te : TD) (ρ : DEnv) (E : XD) (N : List D → DH → Prop) (d : D) (acc : List D) (O : DH) : Prop := g d ρ fun ρ1 => tt ρ1 O (fun k O1 => match k with
    | true => te ρ1 O1 (fun y O2 => O2 a = some (.lst acc) ∧ acc.length < sizeLine ∧ N (acc ++ [y]) (updO O2 a (.lst (acc ++ [y])))) E
    | false => O1 a = some (.lst acc) ∧ N acc O1) E
theorem lcGo_ind {a : Addr} {g : DG} {tt : TDT} {te : TD} {ρ : DEnv} {E : XD} {gd : DH → Prop} {Q : List D → DH → Prop} {items : List D} {O : DH} (J : Nat → List D → DH → Prop) (hg : ∀ k acc O, J k acc O → gd O) (h0 : J 0 [] O)
    (hs : ∀ k d acc O (N : List D → DH → Prop), items[k]? = some d → k < items.length → J k acc O → (∀ acc' O', J (k + 1) acc' O' → N acc' O') → lcTurn a g tt te ρ E N d acc O)
    (he : ∀ acc O, J items.length acc O → Q acc O) : lcGo a g tt te ρ E gd Q items [] O := by
  have go : ∀ (ds : List D) (k : Nat) acc O, items.drop k = ds → k ≤ items.length → J k acc O → lcGo a g tt te ρ E gd Q ds acc O := by
    intro ds
    induction ds with
    | nil =>
      intro k acc O e hk j
      have hk' := drop_nil e hk
      subst hk'
      exact ⟨hg _ _ _ j, he acc O j⟩
    | cons d r ih =>
      intro k acc O e hk j
      obtain ⟨hd, hr, hlt⟩ := drop_cons e
      refine ⟨hg _ _ _ j, ?_⟩
      exact hs k d acc O (fun acc' O' => lcGo a g tt te ρ E gd Q r acc' O') hd hlt j fun acc' O' j' => ih (k + 1) acc' O' hr hlt j'
  exact go items 0 [] O rfl (Nat.zero_le _) h0
theorem forGo_ind {g : DG} {b : TDS} {E : DEnds} {gd : DH → Prop} {items : List D} {ρ : DEnv} {O : DH} (J : Nat → DEnv → DH → Prop) (hg : ∀ k ρ O, J k ρ O → gd O) (h0 : J 0 ρ O)
    (hs : ∀ k d ρ O (N : DEnv → DH → Prop), items[k]? = some d → k < items.length → J k ρ O → (∀ ρ' O', J (k + 1) ρ' O' → N ρ' O') → g d ρ fun ρ1 => b { E with nx := N, ct := N, bk := E.nx } ρ1 O)
    (he : ∀ ρ O, J items.length ρ O → E.nx ρ O) : forGo g b E gd items ρ O := by
  have go : ∀ (ds : List D) (k : Nat) ρ O, items.drop k = ds → k ≤ items.length → J k ρ O → forGo g b E gd ds ρ O := by
    intro ds
    induction ds with
    | nil =>
      intro k ρ O e hk j
      have hk' := drop_nil e hk
      subst hk'
      exact ⟨hg _ _ _ j, he ρ O j⟩
    | cons d r ih =>
      intro k ρ O e hk j
      obtain ⟨hd, hr, hlt⟩ := drop_cons e
      refine ⟨hg _ _ _ j, ?_⟩
      exact hs k d ρ O (fun ρ' O' => forGo g b E gd r ρ' O') hd hlt j fun ρ' O' j' => ih (k + 1) ρ' O' hr hlt j'
  exact go items 0 ρ O rfl (Nat.zero_le _) h0
/-- a comprehension whose element is a function of the item and changes nothing -/
theorem lc_map {a : Addr} {i : Nat} {te : TD} {ρ : DEnv} {Q : List D → DH → Prop} {ds : List D} {O : DH} {gd : DH → Prop} (f : D → D) (hz : ds.length ≤ sizeLine) (ha : O a = none) (hg : ∀ O2, Sub O O2 → gd O2)
    (h : ∀ d ∈ ds, ∀ (O2 : DH) (R : QD), Sub O O2 → R (f d) O2 → te (ρ.set i (some d)) O2 R ENo) (q : Q (ds.map f) O) :
    lcGo a (gN i) dYes te ρ ENo gd (fun acc O2 => O2 a = some (.lst acc) ∧ ∃ O3, Sub O3 O2 ∧ O3 a = none ∧ Q acc O3) ds [] (updO O a (.lst [])) := by
  refine lcGo_ind (fun k acc O2 => acc = (ds.take k).map f ∧ O2 = updO O a (.lst acc)) (fun k acc O2 j => by rw [j.2]; exact hg _ (Sub.new ha)) ⟨rfl, rfl⟩ (fun k d acc O2 N hd hk j n => ?_) fun acc O2 j => ?_
  · obtain ⟨rfl, rfl⟩ := j
    refine h d (List.mem_of_getElem? hd) _ _ (Sub.new ha) ⟨updO_same, by rw [List.length_map, List.length_take]; omega, n _ _ ⟨?_, updO_upd⟩⟩
    rw [List.take_succ, hd, List.map_append]
    rfl
  · obtain ⟨rfl, rfl⟩ := j
    rw [List.take_length]
    exact ⟨updO_same, O, Sub.new ha, ha, q⟩
/-- .. with a test -/
theorem lc_filter {a : Addr} {i : Nat} {tt : TDT} {te : TD} {ρ : DEnv} {Q : List D → DH → Prop} {ds : List D} {O : DH} {gd : DH → Prop} (p : D → Bool) (f : D → D) (hz : ds.length ≤ sizeLine) (ha : O a = none) (hg : ∀ O2, Sub O O2 → gd O2)
    (ht : ∀ d ∈ ds, ∀ (O2 : DH) (R : Bool → DH → Prop), Sub O O2 → R (p d) O2 → tt (ρ.set i (some d)) O2 R ENo)
    (h : ∀ d ∈ ds, p d = true → ∀ (O2 : DH) (R : QD), Sub O O2 → R (f d) O2 → te (ρ.set i (some d)) O2 R ENo) (q : Q ((ds.filter p).map f) O) :
    lcGo a (gN i) tt te ρ ENo gd (fun acc O2 => O2 a = some (.lst acc) ∧ ∃ O3, Sub O3 O2 ∧ O3 a = none ∧ Q acc O3) ds [] (updO O a (.lst [])) := by
  refine lcGo_ind (fun k acc O2 => acc = ((ds.take k).filter p).map f ∧ O2 = updO O a (.lst acc)) (fun k acc O2 j => by rw [j.2]; exact hg _ (Sub.new ha)) ⟨rfl, rfl⟩ (fun k d acc O2 N hd hk j n => ?_) fun acc O2 j => ?_
  · obtain ⟨rfl, rfl⟩ := j
    have hm := List.mem_of_getElem? hd
    have hl : (((ds.take k).filter p).map f).length < sizeLine := by
      rw [List.length_map]
      have := List.length_filter_le p (ds.take k)
      rw [List.length_take] at this
      omega
    have ht2 : ds.take (k + 1) = ds.take k ++ [d] := by rw [List.take_succ, hd]; rfl
    refine ht d hm _ _ (Sub.new ha) ?_
    cases hp : p d with
    | true =>
      refine h d hm hp _ _ (Sub.new ha) ⟨updO_same, hl, n _ _ ⟨?_, updO_upd⟩⟩
      rw [ht2, List.filter_append, List.map_append, List.filter_cons, if_pos hp]
      rfl
    | false =>
      refine ⟨updO_same, n _ _ ⟨?_, rfl⟩⟩
      rw [ht2, List.filter_append, List.map_append, List.filter_cons, if_neg (by rw [hp]; decide)]
      simp
  · obtain ⟨rfl, rfl⟩ := j
    rw [List.take_length]
    exact ⟨updO_same, O, Sub.new ha, ha, q⟩
/-- a comprehension whose turns draw from what stands at v: I t: what stands there behind some draws -/
theorem lc_draw {a v : Addr} {i : Nat} {te : TD} {ρ : DEnv} {Q : List D → DH → Prop} {ds : List D} {O : DH} {gd : DH → Prop} {m0 : MO} (hg : ∀ m x, gd (updO (updO O v m) a (.lst x))) (I : Nat → MO → Prop) (P : Nat → D → Prop) (hz : ds.length ≤ sizeLine) (ha : O a = none) (hv : O v = some m0) (h0 : I 0 m0)
    (h : ∀ k d, ds[k]? = some d → ∀ (O2 : DH) (m : MO) (R : QD), O2 v = some m → I k m → (∀ y m', P k y → I (k + 1) m' → R y (updO O2 v m')) → te (ρ.set i (some d)) O2 R ENo)
    (q : ∀ ys m, ys.length = ds.length → (∀ k y, ys[k]? = some y → P k y) → I ds.length m → Q ys (updO O v m)) :
    lcGo a (gN i) dYes te ρ ENo gd (fun acc O2 => O2 a = some (.lst acc) ∧ ∃ O3, Sub O3 O2 ∧ O3 a = none ∧ Q acc O3) ds [] (updO O a (.lst [])) := by
  have nv : v ≠ a := ne_free hv ha
  have hself : updO O v m0 = O := by
    funext b
    unfold updO
    split
    · next e => rw [e, hv]
    · rfl
  refine lcGo_ind (fun k acc O2 => acc.length = k ∧ (∀ j y, acc[j]? = some y → P j y) ∧ ∃ m, I k m ∧ O2 = updO (updO O v m) a (.lst acc)) (fun k acc O2 j => by obtain ⟨_, _, m, _, e⟩ := j; rw [e]; exact hg m acc) ⟨rfl, fun j y e => by simp at e, m0, h0, by rw [hself]⟩ (fun k d acc O2 N hd hk j n => ?_) fun acc O2 j => ?_
  · obtain ⟨hl, hp, m, im, rfl⟩ := j
    refine h k d hd _ m _ (by rw [updO_ne nv]; exact updO_same) im fun y m' py im' => ⟨by rw [updO_ne nv.symm]; exact updO_same, by omega, n _ _ ⟨by simp [hl], fun j z e => ?_, m', im', ?_⟩⟩
    · by_cases hj : j < acc.length
      · rw [List.getElem?_append_left hj] at e
        exact hp j z e
      · rw [List.getElem?_append_right (by omega)] at e
        by_cases hjz : j - acc.length = 0
        · rw [hjz] at e
          have : y = z := by simpa using e
          subst this
          have : j = k := by omega
          subst this
          exact py
        · have : (j - acc.length) = (j - acc.length - 1) + 1 := by omega
          rw [this] at e
          simp at e
    · rw [updO_comm nv.symm, updO_upd, updO_upd]
  · obtain ⟨hl, hp, m, im, rfl⟩ := j
    exact ⟨updO_same, updO O v m, Sub.new (by rw [updO_ne nv.symm]; exact ha), by rw [updO_ne nv.symm]; exact ha, q acc m hl hp (by rw [← hl] at im; rw [hl] at im; exact im)⟩
/-! ### lists of ints, of truths -/
theorem pys_ints (ns : List Int) : D.pys (ns.map D.int) = some (ns.map PyData.int) := by
  induction ns with
  | nil => rfl
  | cons n r ih => rw [List.map_cons, List.map_cons]; unfold D.pys; rw [ih]; rfl
theorem pys_bls (ns : List Bool) : D.pys (ns.map D.bl) = some (ns.map PyData.bool) := by
  induction ns with
  | nil => rfl
  | cons n r ih => rw [List.map_cons, List.map_cons]; unfold D.pys; rw [ih]; rfl
theorem can_ints (ns : List Int) : PyData.canLayAll0 (ns.map PyData.int) = true := by
  induction ns with
  | nil => rfl
  | cons n r ih => rw [List.map_cons]; unfold PyData.canLayAll0; rw [ih]; rfl
theorem depth_ints (ns : List Int) : PyData.depthAll (ns.map PyData.int) ≤ 1 := by
  induction ns with
  | nil => simp [PyData.depthAll]
  | cons n r ih => rw [List.map_cons]; unfold PyData.depthAll; simp only [PyData.depth]; omega
theorem shaped_intsL (ns : List Int) : SeqAt.shaped (.list (ns.map PyData.int)) = true := by
  have h := depth_ints ns
  show (PyData.canLayAll0 (ns.map PyData.int) && decide (PyData.depthAll (ns.map PyData.int) + 1 ≤ 64)) = true
  rw [can_ints, Bool.true_and, decide_eq_true_eq]
  omega
theorem shaped_intsT (ns : List Int) : SeqAt.shaped (.tuple (ns.map PyData.int)) = true := by
  have h := depth_ints ns
  show (PyData.canLayAll0 (ns.map PyData.int) && decide (PyData.depthAll (ns.map PyData.int) + 1 ≤ 64)) = true
  rw [can_ints, Bool.true_and, decide_eq_true_eq]
  omega
theorem self_upd {O : DH} {v : Addr} {m : MO} (h : O v = some m) : updO O v m = O := by
  funext b
  unfold updO
  split
  · next e => rw [e, h]
  · rfl
theorem atI_0 {α : Type} (x : α) (r : List α) : atI (x :: r) 0 = some x := atI_nat (j := 0) rfl
theorem atI_1 {α : Type} (x y : α) (r : List α) : atI (x :: y :: r) 1 = some y := atI_nat (j := 1) rfl
theorem atI_2 {α : Type} (x y z : α) (r : List α) : atI (x :: y :: z :: r) 2 = some z := atI_nat (j := 2) rfl
theorem ixN_0 (n : Nat) : ixN (n + 1) 0 = some 0 := by unfold ixN; rw [if_pos (by decide), if_pos (by omega)]; rfl
theorem ixN_1 (n : Nat) : ixN (n + 2) 1 = some 1 := by unfold ixN; rw [if_pos (by decide), if_pos (by omega)]; rfl
theorem ixN_2 (n : Nat) : ixN (n + 3) 2 = some 2 := by unfold ixN; rw [if_pos (by decide), if_pos (by omega)]; rfl
theorem fEq_ii {O : DH} {i j : Int} {Q : D → Prop} : fEq O (.int i) (.int j) Q = Q (.bl (decide (i = j))) := by
  have e : PyData.eqv (.int i) (.int j) = decide (i = j) := by
    show (i == j) = decide (i = j)
    by_cases h : i = j <;> simp [h]
  show (SeqAt.shaped (.int i) = true ∧ SeqAt.shaped (.int j) = true ∧ Q (.bl (PyData.eqv (.int i) (.int j)))) = _
  rw [e]
  simp [show SeqAt.shaped (.int i) = true from rfl, show SeqAt.shaped (.int j) = true from rfl]
theorem fNe_ii {O : DH} {i j : Int} {Q : D → Prop} : fNe O (.int i) (.int j) Q = Q (.bl (!decide (i = j))) := by
  have e : PyData.eqv (.int i) (.int j) = decide (i = j) := by
    show (i == j) = decide (i = j)
    by_cases h : i = j <;> simp [h]
  show (SeqAt.shaped (.int i) = true ∧ SeqAt.shaped (.int j) = true ∧ Q (.bl (!PyData.eqv (.int i) (.int j)))) = _
  rw [e]
  simp [show SeqAt.shaped (.int i) = true from rfl, show SeqAt.shaped (.int j) = true from rfl]
theorem fEq_ss {O : DH} {i j : Str} {Q : D → Prop} : fEq O (.str i) (.str j) Q = Q (.bl (decide (i = j))) := rfl
theorem fNe_ss {O : DH} {i j : Str} {Q : D → Prop} : fNe O (.str i) (.str j) Q = Q (.bl (!decide (i = j))) := rfl
theorem fEq_bb {O : DH} {i j : Bool} {Q : D → Prop} : fEq O (.bl i) (.bl j) Q = Q (.bl (i == j)) := by
  show (SeqAt.shaped (.bool i) = true ∧ SeqAt.shaped (.bool j) = true ∧ Q (.bl (PyData.eqv (.bool i) (.bool j)))) = _
  simp [show SeqAt.shaped (.bool i) = true from rfl, show SeqAt.shaped (.bool j) = true from rfl, show PyData.eqv (.bool i) (.bool j) = (i == j) from rfl]
theorem fNe_bb {O : DH} {i j : Bool} {Q : D → Prop} : fNe O (.bl i) (.bl j) Q = Q (.bl (!(i == j))) := by
  show (SeqAt.shaped (.bool i) = true ∧ SeqAt.shaped (.bool j) = true ∧ Q (.bl (!PyData.eqv (.bool i) (.bool j)))) = _
  simp [show SeqAt.shaped (.bool i) = true from rfl, show SeqAt.shaped (.bool j) = true from rfl, show PyData.eqv (.bool i) (.bool j) = (i == j) from rfl]
/-! ### repr of truths -/
theorem showable_bls (bs : List Bool) : PyData.showableAll (bs.map PyData.bool) = true := by
  induction bs with
  | nil => rfl
  | cons b r ih => rw [List.map_cons]; unfold PyData.showableAll; rw [ih]; rfl
theorem nodict_bls (bs : List Bool) : PyData.hasDictAll (bs.map PyData.bool) = false := by
  induction bs with
  | nil => rfl
  | cons b r ih => rw [List.map_cons]; unfold PyData.hasDictAll; rw [ih]; rfl
theorem depth_bls (ns : List Bool) : PyData.depthAll (ns.map PyData.bool) ≤ 1 := by
  induction ns with
  | nil => simp [PyData.depthAll]
  | cons n r ih => rw [List.map_cons]; unfold PyData.depthAll; simp only [PyData.depth]; omega
end Dx
namespace Dx
open PySem L2
/-! ### instances of own classes -/
def insD (O : DH) : D → Option (Addr × List (Str × D))
  | .ins C fs => some (C, fs)
  | .ref a => match O a with
    | some (.ins C fs) => some (C, fs)
    | _ => none
  | _ => none
theorem insD_rep {K : PySem.W.Frag} {H F : Hp} {O : DH} (k : OkS K H F O) {d : D} {v : V} (r : Rep K F d v) {C : Addr} {gs : List (Str × D)} (h : insD O d = some (C, gs)) : ∃ a dx fs, v = .ref a ∧ H a = some (.ins C dx fs) ∧ RepF K F gs fs := by
  cases r with
  | ins h1 h2 => cases h; exact ⟨_, _, _, rfl, k.ex _ _ h1, h2⟩
  | ref a =>
    unfold insD at h
    simp only at h
    split at h
    · next C' fs e =>
      cases h
      obtain ⟨dx, xs, h1, h2⟩ := (k.own a _ e).2
      exact ⟨a, dx, xs, rfl, h1, h2⟩
    · cases h
  | _ => cases h
theorem RepF.lookup {K : PySem.W.Frag} {F : Hp} {f : Str} : ∀ {gs : List (Str × D)} {fs : List (Str × V)} {d : D}, RepF K F gs fs → gs.lookup f = some d → ∃ v, fs.lookup f = some v ∧ Rep K F d v
  | _, _, _, .nil, h => by cases h
  | _, _, d, .cons (k := k) (v := v) (ds := ds) (vs := vs) hd r, h => by
    rw [List.lookup] at h ⊢
    cases e : f == k with
    | true => rw [e] at h; cases h; exact ⟨_, rfl, hd⟩
    | false => rw [e] at h; exact RepF.lookup r h
theorem RepF.lookup_none {K : PySem.W.Frag} {F : Hp} {f : Str} : ∀ {gs : List (Str × D)} {fs : List (Str × V)}, RepF K F gs fs → gs.lookup f = none → fs.lookup f = none
  | _, _, .nil, h => rfl
  | _, _, .cons (k := k) (v := v) (ds := ds) (vs := vs) hd r, h => by
    rw [List.lookup] at h ⊢
    cases e : f == k with
    | true => rw [e] at h; cases h
    | false => rw [e] at h; exact RepF.lookup_none r h
theorem RepF.length {K : PySem.W.Frag} {F : Hp} : ∀ {gs : List (Str × D)} {fs : List (Str × V)}, RepF K F gs fs → gs.length = fs.length
  | _, _, .nil => rfl
  | _, _, .cons _ r => by rw [List.length_cons, List.length_cons, RepF.length r]
def putD (f : Str) (d : D) : List (Str × D) → List (Str × D)
  | [] => [(f, d)]
  | (g, x) :: r => if g = f then (g, d) :: r else (g, x) :: putD f d r
theorem RepF.put {K : PySem.W.Frag} {F : Hp} {f : Str} {d : D} {v : V} (q : Rep K F d v) : ∀ {gs : List (Str × D)} {fs : List (Str × V)}, RepF K F gs fs → RepF K F (putD f d gs) (putF f v fs)
  | _, _, .nil => .cons q .nil
  | _, _, .cons (k := k) hd r => by
    unfold putD putF
    by_cases e : k = f
    · rw [if_pos e, if_pos e]; exact .cons q r
    · rw [if_neg e, if_neg e]; exact .cons hd (RepF.put q r)
/-- the class at C lets its instances' field f be read and written plainly -/
def FldOk (K : PySem.W.Frag) (C : Addr) (f : Str) : Prop := Cls K C ∧ NoAttr K C f
/-- e.f -/
def dFld (K : PySem.W.Frag) (f : Str) (ta : TD) : TD := fun ρ O Q E => ta ρ O (fun d O1 => match insD O1 d with
  | some (C, gs) => FldOk K C f ∧ (match gs.lookup f with
    | some v => Q v O1
    | none => False)
  | none => False) E
section
variable {X : Cx} {W : WX} {e o a b : Expr} {f : Str} {ta tb : TD} {pos p p1 p2 pos' : Pos}
theorem de_fld (he : DE X W e ta) (hb : attributeBase e f X.env (eval e X.env) = eval e X.env := by rfl) : DE X W (.Attribute e f pos) (dFld X.K f ta) := pe_imp (pe_fld he hb) fun σ H Q u => by
  obtain ⟨F, ρ, O, Qd, Ed, ok, env, td, k, xr⟩ := u
  refine ⟨F, ρ, O, _, Ed, ok, env, td, fun v H1 F1 d O1 e1 r1 ok1 q1 => ?_, xr⟩
  split at q1
  · next C gs hi =>
    obtain ⟨⟨cl, na⟩, q1⟩ := q1
    obtain ⟨a, dx, fs, rfl, h1, h2⟩ := insD_rep ok1 r1 hi
    split at q1
    · next d' hd =>
      obtain ⟨v', hv, rv⟩ := h2.lookup hd
      exact ⟨a, C, dx, fs, v', rfl, h1, cl, na, hv, k v' H1 F1 d' O1 e1 rv ok1 q1⟩
    · exact q1.elim
  · exact q1.elim
/-- o.f = e -/
def dSetFld (K : PySem.W.Frag) (f : Str) (te to : TD) : TDS := fun E ρ O => te ρ O (fun y O1 => to ρ O1 (fun d O2 => match d with
  | .ref a => match O2 a with
    | some (.ins C gs) => FldOk K C f ∧ gs.length < 1000 ∧ E.nx ρ (updO O2 a (.ins C (putD f y gs)))
    | _ => False
  | _ => False) fun c f O' => E.ex c f ρ O') fun c f O' => E.ex c f ρ O'
theorem ds_setFld {value : Expr} {tv to : TD} (hv : DE X W value tv) (ho : DE X W o to) (hs : swapsWith value (some (.Attribute o f pos')) pos.line X.env = pure false := by rfl) : DS X W (.Assign [.Attribute o f pos'] value pos) (dSetFld X.K f tv to) := ps_imp (ps_fld ho hv hs) fun E σ H u => by
  obtain ⟨F, ρ, O, Dd, ok, env, td, x⟩ := u
  refine ⟨F, ρ, O, _, _, ok, env, td, fun y H1 F1 dy O1 e1 r1 ok1 q1 => ?_, x.xr env⟩
  refine ⟨F1, ρ, O1, _, _, ok1, env.mono e1, q1, fun v H2 F2 d O2 e2 r2 ok2 q2 => ?_, (x.mono e1).xr (env.mono e1)⟩
  split at q2
  · rename_i a
    split at q2
    · next C gs hO =>
      obtain ⟨⟨cl, na⟩, hl, q2⟩ := q2
      cases r2
      obtain ⟨dx, fs, h1, h2⟩ := (ok2.own a _ hO).2
      refine ⟨a, C, dx, fs, rfl, h1, cl, na, by rw [← h2.length]; exact hl, ?_⟩
      exact x.nx _ _ F2 _ _ (e1.trans e2) (ok2.put (m := .ins C (putD f dy gs)) hO ⟨dx, _, upd_same, h2.put (r1.mono e2)⟩) (env.mono (e1.trans e2)) q2
    · exact q2.elim
  · exact q2.elim
end
/-! ### isinstance of an own class -/
def InsOk (K : PySem.W.Frag) (C : Addr) : Prop := Cls K C ∧ PySem.W.findIn K (.ref C) "__class__" = some (some (.builtin "object.__class__")) ∧ PySem.W.specialIn K (.builtin "object.__class__") "__get__" = some (some (.builtin "getset_descriptor.__get__")) ∧
  PySem.W.takesIn K (.builtin "object.__class__") = some true ∧ PySem.W.mroIn K C (.type "object") = some true
def tyV (O : DH) : D → Option Value
  | .ins C _ => some (.ref C)
  | .ref a => match O a with
    | some (.lst _) => some (.type "list")
    | some (.dic _) => some (.type "dict")
    | some (.ins C _) => some (.ref C)
    | none => none
  | d => (kindD O d).map Value.type
def TyOkD (K : PySem.W.Frag) : Value → Prop
  | .ref C => InsOk K C
  | _ => True
theorem tyV_rep {K : PySem.W.Frag} {H F : Hp} {O : DH} (k : OkS K H F O) {d : D} {v : V} (r : Rep K F d v) {t : Value} (h : tyV O d = some t) (ty : TyOkD K t) : TyX K H v t := by
  have gen : (kindD O d).map Value.type = some t → TyX K H v t := fun h => by
    cases hk : kindD O d with
    | none => rw [hk] at h; cases h
    | some s => rw [hk] at h; cases h; exact (kindD_rep k r hk).1
  cases r with
  | ins h1 h2 =>
    cases h
    obtain ⟨c1, c2, c3, c4, c5⟩ := ty
    exact .base (.ins (k.ex _ _ h1) c1 c2 c3 c4 c5)
  | ref a =>
    unfold tyV at h
    simp only at h
    cases ho : O a with
    | none => rw [ho] at h; cases h
    | some m =>
      rw [ho] at h
      cases m with
      | lst ds => cases h; obtain ⟨xs, h1, _⟩ := (k.own a _ ho).2; exact .base (.lst h1)
      | dic ds => cases h; obtain ⟨xs, h1, _⟩ := (k.own a _ ho).2; exact .base (.dK h1)
      | ins C gs =>
        cases h
        obtain ⟨dx, xs, h1, _⟩ := (k.own a _ ho).2
        obtain ⟨c1, c2, c3, c4, c5⟩ := ty
        exact .base (.ins h1 c1 c2 c3 c4 c5)
  | _ => exact gen h
/-- isinstance(e, C) -/
def dIsiC (K : PySem.W.Frag) (C : Addr) (ta : TD) : TD := fun ρ O Q E => ta ρ O (fun d O1 => match tyV O1 d with
  | some t => TyOkD K t ∧ ∃ b, PySem.W.kitOne K t (.ref C) = some b ∧ Q (.bl b) O1
  | none => False) E
section
variable {X : Cx} {W : WX} {e : Expr} {ta : TD} {pos p pi : Pos}
theorem de_isiC {x : Str} {C : Addr} (gi : Gl X "isinstance") (mi : X.mg "isinstance" = none) (hg : Gl X x) (hm : X.mg x = some (.ref C)) (he : DE X W e ta) (hd : (x == ("__debug__" : Str)) = false := by decide)
    (h1 : starEach [e, .Name x p] X.env = (false, eval e X.env) :: starEach [.Name x p] X.env := by rfl) (h2 : starEach [.Name x p] X.env = (false, eval (.Name x p) X.env) :: starEach [] X.env := by rfl) (h3 : (backTo pos (starEach [.Name x p] X.env)).any (·.1) = false := by rfl) :
    DE X W (.Call (.Name "isinstance" pi) [e, .Name x p] [] pos) (dIsiC X.K C ta) :=
  pe_imp (pe_callB call_isi gi mi (by decide +kernel) (pa_cons he (pa_cons (pe_glob (v := .ref C) hg hm rfl hd) pa_nil h2) h1) (by decide) (by decide) h1 h3) fun σ H Q u => by
    obtain ⟨F, ρ, O, Qd, Ed, ok, env, td, k, xr⟩ := u
    refine ⟨F, ρ, O, _, Ed, ok, env, td, fun v H1 F1 d O1 e1 r1 ok1 q1 => ?_, xr⟩
    split at q1
    · next t ht =>
      obtain ⟨ty, b, hk, q1⟩ := q1
      exact ⟨v, .ref C, t, .ref C, b, rfl, .own C, tyV_rep ok1 r1 ht ty, hk, k _ H1 F1 _ O1 e1 (.bl _) ok1 q1⟩
    · exact q1.elim
end
end Dx
namespace Dx
open PySem L2
/-! ### C(..): a new instance; it is frozen -/
/-- n values and m keywords -/
def dMake (C : Addr) (sd : SpD) (n m : Nat) (gD : List D → List D → List D) (tr tk : TDA) : TD := fun ρ O Q E => tr ρ O (fun ds O1 => tk ρ O1 (fun es O2 => ds.length = n ∧ es.length = m ∧
  ∀ a, O2 a = none → sd (gD (.ref a :: ds) es) (updO O2 a (.ins C [])) (fun v O3 => v = .non ∧ ∃ gs O4, O3 a = some (.ins C gs) ∧ Dx.Sub O4 O3 ∧ O4 a = none ∧ Q (.ins C gs) O4) E) E) E
/-- what is frozen now -/
theorem OkS.freeze {K : PySem.W.Frag} {H F : Hp} {O O' : DH} (k : OkS K H F O) {a C : Addr} {gs : List (Str × D)} (h : O a = some (.ins C gs)) (s : Dx.Sub O' O) (n : O' a = none) :
    ∃ F', Same F F' ∧ OkS K H F' O' ∧ Rep K F' (.ins C gs) (.ref a) := by
  obtain ⟨fa, dx, fs, h1, h2⟩ := k.own a _ h
  have e : Same F (upd F a (.ins C dx fs)) := fun b u hb => by rw [upd_ne (ne_of_none hb fa)]; exact hb
  refine ⟨upd F a (.ins C dx fs), e, ⟨fun b u hb => ?_, fun b m hb => ?_⟩, .ins upd_same (h2.mono e)⟩
  · by_cases hba : b = a
    · subst hba; rw [upd_same] at hb; cases hb; exact h1
    · rw [upd_ne hba] at hb; exact k.ex b u hb
  · have ne : b ≠ a := fun z => by rw [z, n] at hb; cases hb
    obtain ⟨q1, q2⟩ := k.own b m (s b m hb)
    exact ⟨by rw [upd_ne ne]; exact q1, q2.mono e rfl⟩
section
variable {X : Cx} {W : WX} {k n : Nat} {f C : Addr} {fd : FuncData} {ps ks : List Str} {sd : SpD} {x m : Str} {p pos apos kpos : Pos} {e o : Expr} {es : List Expr} {kws : List Keyword} {ta tb : TD} {tr tk : TDA} {gD : List D → List D → List D} {nm : Option Str}
theorem room_make {k : Nat} {A : Around} (r : Room (k + 1) A) (C : Addr) (us : List Value) (kw : List (Str × Value)) : Room k (A.under (.builtin "type.__call__" ⟨.ref C :: us, kw⟩)) := r.make C us kw
theorem runMk {pins : List (Addr × Obj)} {σ : L2.St} {H F : Hp} {O : DH} {s : Shared} {us ws : List Value} {vs zs : List V} {ds ees : List D} {Q : VK} {Qd : QD} {Ed : XD} (M : Mk X.K C f) (G : FnG X.prog X.w X.K X.mg X.base k f fd ps sd) (hr : Room (k + 1) X.A) (hgd : X.A.guards = some []) (tk : Takes X W) (hb : Bnd X.K fd ps (n + 1) ks gD)
    (I : Inv X pins σ H s) (r : Vals vs us) (rz : Vals zs ws) (ok : OkS X.K H F O) (rd : RepA X.K F ds vs) (re : RepA X.K F ees zs) (hn : ds.length = n) (hm : ees.length = ks.length)
    (q : ∀ a, O a = none → sd (gD (.ref a :: ds) ees) (updO O a (.ins C [])) (fun v O3 => v = .non ∧ ∃ gs O4, O3 a = some (.ins C gs) ∧ Dx.Sub O4 O3 ∧ O4 a = none ∧ Qd (.ins C gs) O4) Ed)
    (k1 : ∀ v H' F' d O', Same F F' → Rep X.K F' d v → OkS X.K H' F' O' → Qd d O' → Q v H') (xr : XRel X.K W F σ Ed) : wpAny (model X.prog X.w) X.A (call (.ref C) us (ks.zip ws)) (EP X pins σ Q) X.xe s := by
  let a := s.heap.objs.size + 1
  let dx := s.heap.objs.size
  have hx : H a = none := I.hok.fresh (Nat.le_succ _)
  have hdx : H dx = none := I.hok.fresh (Nat.le_refl _)
  have hne : dx ≠ a := Nat.ne_of_lt (Nat.lt_succ_self _)
  have I2 := Inv.made (C := C) I
  have ok1 : OkS X.K (upd H dx (.own a)) F O := ok.more hdx _
  have hxa : upd H dx (.own a) a = none := by rw [upd_ne hne.symm]; exact hx
  have ok2 : OkS X.K (upd (upd H dx (.own a)) a (.ins C dx [])) F (updO O a (.ins C [])) := ok1.layM (m := .ins C []) hxa ⟨dx, [], upd_same, .nil⟩
  have hq := q a (ok.freeO hx)
  obtain ⟨vs', us', h1, h2, h3⟩ := hb.to F (.ref a :: ds) ees (.ref a :: vs) zs (.ref a :: us) ws _ I2.kIn (.cons (.ref a) rd) (.cons rfl r) (by rw [List.length_cons, hn]) re rz hm
  have hup : upF X.K sd vs' (upd (upd H dx (.own a)) a (.ins C dx [])) (fun v H' => v = .non ∧ Q (.ref a) H') (WE W σ) :=
    ⟨F, _, _, _, Ed, ok2, h1, hq, fun v H' F' d O' e rv ok' ⟨ed, gs, O4, hO, hs, hno, hq'⟩ => by
      subst ed
      cases rv
      obtain ⟨F2, e2, ok3, rv2⟩ := ok'.freeze hO hs hno
      exact ⟨rfl, k1 _ H' F2 _ O4 (e.trans e2) rv2 ok3 hq'⟩, fun cls dd H' F' fs O' e r ok q => xr cls dd H' F' fs O' e r ok q⟩
  refine wpAny_call (make_map (f := f) I.kIn M.makes M.init (beq_iff_eq.mp M.fn) (codeAny_mono (G.run _ X.stack _ _ ⟨Value.ref a :: us, ks.zip ws⟩ us' vs' _ (WE W σ) (hr.make C us (ks.zip ws)) ?_
    (I2.env0.make C us (ks.zip ws)) h3 h2 hup) fun r s' hq' => ?_))
  · exact hgd
  cases r with
  | error e => exact passAt tk σ pins _ _ e s' I2 hq'
  | ok fl =>
    cases fl with
    | ret u =>
      obtain ⟨v, H', I3, rv, ev, q3⟩ := I2.after hq'
      subst ev
      exact ⟨rv, ⟨V.ref a, H', I3, rfl, q3⟩⟩
    | next => exact False.elim hq'
    | brk => exact False.elim hq'
    | cont => exact False.elim hq'
theorem de_make (M : Mk X.K C f) (G : FnG X.prog X.w X.K X.mg X.base k f fd ps sd) (hr : Room (k + 1) X.A) (hgd : X.A.guards = some []) (tk : Takes X W) (hg : Gl X x) (hm : X.mg x = some (.ref C)) (hb : Bnd X.K fd ps (n + 1) [] gD) (ha : DA X W (e :: es) tr)
    (hdb : (x == ("__debug__" : Str)) = false := by decide) (he : starEach (e :: es) X.env = (false, eval e X.env) :: starEach es X.env := by rfl) (hpl : (backTo pos (starEach es X.env)).any (·.1) = false := by rfl) :
    DE X W (.Call (.Name x p) (e :: es) [] pos) (dMake C sd n 0 gD tr dNil) := ⟨fun pins s σ H Q I u => by
  obtain ⟨F, ρ, O, Qd, Ed, ok, env, td, k1, xr⟩ := u
  refine wpAny_Call_Name_kw (ld_glob I hg hm ?_ hdb)
  refine PySem.W.callWith_K (h₀ := X.base) I.ok.mod.kin M.kp (thn (ha.run pos pins s σ H (fun vs H1 => ∃ F1 ds O1, Same F F1 ∧ RepA X.K F1 ds vs ∧ OkS X.K H1 F1 O1 ∧ _) I ⟨F, ρ, O, _, Ed, ok, env, td, fun vs H1 F1 ds O1 e1 r1 ok1 q1 => ⟨F1, ds, O1, e1, r1, ok1, q1⟩, xr⟩) fun us s1 hq => ?_) he hpl
  obtain ⟨vs, H1, I1, rv, F1, ds, O1, e1, r1, ok1, hn, hz, q⟩ := hq
  exact ⟨I1.kIn, runMk (ks := []) (ws := []) (zs := []) (ees := []) M G hr hgd tk hb I1 rv .nil ok1 r1 .nil hn rfl q (fun v H' F' d O' e => k1 v H' F' d O' (e1.trans e)) (xr.mono e1)⟩⟩
theorem de_makeK (M : Mk X.K C f) (G : FnG X.prog X.w X.K X.mg X.base k f fd ps sd) (hr : Room (k + 1) X.A) (hgd : X.A.guards = some []) (tk0 : Takes X W) (hg : Gl X x) (hm : X.mg x = some (.ref C)) (hb : Bnd X.K fd ps (n + 1) ks gD) (ha : DA X W (e :: es) tr) (hkw : DK X W kws tk)
    (hall : (backToKw pos (keywordEach kws X.env)).all (·.1.isSome) = true := by rfl) (hks : (backToKw pos (keywordEach kws X.env)).filterMap (·.1) = ks := by rfl)
    (hdb : (x == ("__debug__" : Str)) = false := by decide) (he : starEach (e :: es) X.env = (false, eval e X.env) :: starEach es X.env := by rfl)
    (hpl : ((backTo pos (starEach (e :: es) X.env)).any (·.1) || (backToKw pos (keywordEach kws X.env)).any (·.1.isNone)) = false := by rfl) :
    DE X W (.Call (.Name x p) (e :: es) kws pos) (dMake C sd n ks.length gD tr tk) := ⟨fun pins s σ H Q I u => by
  obtain ⟨F, ρ, O, Qd, Ed, ok, env, td, k1, xr⟩ := u
  refine wpAny_Call_Name_kw (ld_glob I hg hm ?_ hdb)
  refine PySem.W.callWith_KW (h₀ := X.base) I.ok.mod.kin M.kp hall (thn (ha.run pos pins s σ H (fun vs H1 => ∃ F1 ds O1, Same F F1 ∧ RepA X.K F1 ds vs ∧ OkS X.K H1 F1 O1 ∧ _) I ⟨F, ρ, O, _, Ed, ok, env, td, fun vs H1 F1 ds O1 e1 r1 ok1 q1 => ⟨F1, ds, O1, e1, r1, ok1, q1⟩, xr⟩) fun us s1 hq => ?_) hpl he
  obtain ⟨vs, H1, I1, rv, F1, ds, O1, e1, r1, ok1, q1⟩ := hq
  refine thn (hkw.run pos pins s1 σ H1 (fun zs H2 => ∃ F2 ees O2, Same F1 F2 ∧ RepA X.K F2 ees zs ∧ OkS X.K H2 F2 O2 ∧ _) I1 ⟨F1, ρ, O1, _, Ed, ok1, env.mono e1, q1, fun zs H2 F2 ees O2 e2 r2 ok2 q2 => ⟨F2, ees, O2, e2, r2, ok2, q2⟩, xr.mono e1⟩) fun ws s2 hq2 => ?_
  obtain ⟨zs, H2, I2, rz, F2, ees, O2, e2, r2, ok2, hn, hz, q⟩ := hq2
  refine ⟨I2.kIn, ?_⟩
  rw [hks]
  exact runMk M G hr hgd tk0 hb I2 rv rz ok2 (r1.mono e2) r2 hn hz q (fun v H' F' d O' e => k1 v H' F' d O' ((e1.trans e2).trans e)) (xr.mono (e1.trans e2))⟩
theorem de_makeN (M : Mk X.K C f) (G : FnG X.prog X.w X.K X.mg X.base k f fd ps sd) (hr : Room (k + 1) X.A) (hgd : X.A.guards = some []) (tk0 : Takes X W) (hg : Gl X x) (hm : X.mg x = some (.ref C)) (hb : Bnd X.K fd ps 1 ks gD) (hkw : DK X W kws tk)
    (hall : (backToKw pos (keywordEach kws X.env)).all (·.1.isSome) = true := by rfl) (hks : (backToKw pos (keywordEach kws X.env)).filterMap (·.1) = ks := by rfl)
    (hdb : (x == ("__debug__" : Str)) = false := by decide) (hpl : ((backTo pos (starEach [] X.env)).any (·.1) || (backToKw pos (keywordEach kws X.env)).any (·.1.isNone)) = false := by rfl) :
    DE X W (.Call (.Name x p) [] kws pos) (dMake C sd 0 ks.length gD dNil tk) := ⟨fun pins s σ H Q I u => by
  obtain ⟨F, ρ, O, Qd, Ed, ok, env, td, k1, xr⟩ := u
  refine wpAny_Call_Name_kw (ld_glob I hg hm ?_ hdb)
  refine PySem.W.callWith_KW0 (h₀ := X.base) I.ok.mod.kin M.kp hall ?_ hpl
  refine thn (hkw.run pos pins s σ H (fun zs H2 => ∃ F2 ees O2, Same F F2 ∧ RepA X.K F2 ees zs ∧ OkS X.K H2 F2 O2 ∧ _) I ⟨F, ρ, O, _, Ed, ok, env, td, fun zs H2 F2 ees O2 e2 r2 ok2 q2 => ⟨F2, ees, O2, e2, r2, ok2, q2⟩, xr⟩) fun ws s2 hq2 => ?_
  obtain ⟨zs, H2, I2, rz, F2, ees, O2, e2, r2, ok2, hn, hz, q⟩ := hq2
  refine ⟨I2.kIn, ?_⟩
  rw [hks]
  exact runMk (us := []) (vs := []) (ds := []) M G hr hgd tk0 hb I2 .nil rz ok2 .nil r2 rfl hz q (fun v H' F' d O' e => k1 v H' F' d O' (e2.trans e)) (xr.mono e2)⟩
/-! ### o.m(..) -/
def dMeth (K : PySem.W.Frag) (C g : Addr) (m : Str) (sd : SpD) (n k : Nat) (gD : List D → List D → List D) (to : TD) (tr tk : TDA) : TD := fun ρ O Q E => to ρ O (fun d O1 => match insD O1 d with
  | some (C', gs) => C' = C ∧ gs.lookup m = none ∧ tr ρ O1 (fun ds O2 => tk ρ O2 (fun es O3 => ds.length = n ∧ es.length = k ∧ sd (gD (d :: ds) es) O3 Q E) E) E
  | none => False) E
theorem de_meth {pl : Sem Bool} {g : Addr} (ho : DE X W o ta) (c : Cls X.K C) (hm : Meth X.K C m g) (G : FnG X.prog X.w X.K X.mg X.base k g fd ps sd) (hr : Room k X.A) (hgd : X.A.guards = some []) (tk : Takes X W) (hb : Bnd X.K fd ps (n + 1) [] gD) (ha : DA X W (e :: es) tr)
    (hst : starEach (e :: es) X.env = (false, eval e X.env) :: starEach es X.env := by rfl) (hpl : (backTo pos (starEach es X.env)).any (·.1) = false := by rfl)
    (ht : eval (.Call (.Attribute o m apos) (e :: es) [] pos) X.env = (do
      let ov ← eval o X.env
      standAt apos.atName
      let (f, first) ← holding [ov] (getMethod ov m pl)
      callWith pos f first (backTo pos (starEach (e :: es) X.env)) (backToKw pos (keywordEach [] X.env))) := by rfl) :
    DE X W (.Call (.Attribute o m apos) (e :: es) [] pos) (dMeth X.K C g m sd n 0 gD ta tr dNil) := ⟨fun pins s σ H Q I u => by
  obtain ⟨F, ρ, O, Qd, Ed, ok, env, td, k1, xr⟩ := u
  refine PySem.W.methodCall_KW (pl := pl) (thn (ho.run pins s σ H (fun v H1 => ∃ F1 d O1, Same F F1 ∧ Rep X.K F1 d v ∧ OkS X.K H1 F1 O1 ∧ _) I ⟨F, ρ, O, _, Ed, ok, env, td, fun v H1 F1 d O1 e1 r1 ok1 q1 => ⟨F1, d, O1, e1, r1, ok1, q1⟩, xr⟩) fun u s1 hq => ?_) ht
  obtain ⟨v, H1, I1, rv, F1, d, O1, e1, r1, ok1, q1⟩ := hq
  split at q1
  · next C' gs hi =>
    obtain ⟨rfl, hl, q1⟩ := q1
    obtain ⟨a, dx, fs, rfl, h1, h2⟩ := insD_rep ok1 r1 hi
    obtain rfl : u = Value.ref a := rv
    refine getmeth_ok I1 h1 c hm (h2.lookup_none hl) ?_
    refine PySem.W.callWith_K (h₀ := X.base) (first := [.ref a]) I1.ok.mod.kin hm.kp (thn (ha.run pos pins s1 σ H1 (fun vs H2 => ∃ F2 ds O2, Same F1 F2 ∧ RepA X.K F2 ds vs ∧ OkS X.K H2 F2 O2 ∧ _) I1 ⟨F1, ρ, O1, _, Ed, ok1, env.mono e1, q1, fun vs H2 F2 ds O2 e2 r2 ok2 q2 => ⟨F2, ds, O2, e2, r2, ok2, q2⟩, xr.mono e1⟩) fun us s2 hq => ?_) hst hpl
    obtain ⟨vs, H2, I2, rvs, F2, ds, O2, e2, r2, ok2, hn, hz, q⟩ := hq
    exact ⟨I2.kIn, runGv (ks := []) (ws := []) (zs := []) (ees := []) (us := .ref a :: us) (vs := .ref a :: vs) G hr hgd tk hb I2 (.cons rfl rvs) .nil ok2 (.cons (r1.mono e2) r2) .nil (by rw [List.length_cons, hn]) rfl q (fun v H' F' d O' e => k1 v H' F' d O' ((e1.trans e2).trans e)) (xr.mono (e1.trans e2))⟩
  · exact q1.elim⟩
theorem de_meth0 {pl : Sem Bool} {g : Addr} (ho : DE X W o ta) (c : Cls X.K C) (hm : Meth X.K C m g) (G : FnG X.prog X.w X.K X.mg X.base k g fd ps sd) (hr : Room k X.A) (hgd : X.A.guards = some []) (tk : Takes X W) (hb : Bnd X.K fd ps 1 [] gD)
    (ht : eval (.Call (.Attribute o m apos) [] [] pos) X.env = (do
      let ov ← eval o X.env
      standAt apos.atName
      let (f, first) ← holding [ov] (getMethod ov m pl)
      callWith pos f first (backTo pos (starEach [] X.env)) (backToKw pos (keywordEach [] X.env))) := by rfl) :
    DE X W (.Call (.Attribute o m apos) [] [] pos) (dMeth X.K C g m sd 0 0 gD ta dNil dNil) := ⟨fun pins s σ H Q I u => by
  obtain ⟨F, ρ, O, Qd, Ed, ok, env, td, k1, xr⟩ := u
  refine PySem.W.methodCall_KW (pl := pl) (thn (ho.run pins s σ H (fun v H1 => ∃ F1 d O1, Same F F1 ∧ Rep X.K F1 d v ∧ OkS X.K H1 F1 O1 ∧ _) I ⟨F, ρ, O, _, Ed, ok, env, td, fun v H1 F1 d O1 e1 r1 ok1 q1 => ⟨F1, d, O1, e1, r1, ok1, q1⟩, xr⟩) fun u s1 hq => ?_) ht
  obtain ⟨v, H1, I1, rv, F1, d, O1, e1, r1, ok1, q1⟩ := hq
  split at q1
  · next C' gs hi =>
    obtain ⟨rfl, hl, _, _, q1⟩ := q1
    obtain ⟨a, dx, fs, rfl, h1, h2⟩ := insD_rep ok1 r1 hi
    obtain rfl : u = Value.ref a := rv
    refine getmeth_ok I1 h1 c hm (h2.lookup_none hl) ?_
    exact PySem.W.callWith_K0 (first := [.ref a]) I1.kIn hm.kp (runGv (ks := []) (ws := []) (zs := []) (ees := []) (ds := [d]) (us := [.ref a]) (vs := [.ref a]) G hr hgd tk hb I1 (.cons rfl .nil) .nil ok1 (.cons r1 .nil) .nil rfl rfl q1 (fun v H' F' d O' e => k1 v H' F' d O' (e1.trans e)) (xr.mono e1))
  · exact q1.elim⟩
/-! ### x == y, x != y by the own __eq__ of x's class -/
def EqCls (K : PySem.W.Frag) (C f : Addr) : Prop := PySem.W.findIn K (.ref C) "__eq__" = some (some (.ref f)) ∧ PySem.W.isFn K (.ref f) = true
/-- the right operand's class does not go first -/
def NotFirst (K : PySem.W.Frag) (O : DH) (C : Addr) (d : D) : Prop := ∃ t, tyV O d = some t ∧ PySem.W.notFirst K C t = true
def dEqC (K : PySem.W.Frag) (C : Addr) (neg : Bool) (sd : SpD) (ta tb : TD) : TD := fun ρ O Q E => ta ρ O (fun x O1 => tb ρ O1 (fun y O2 => (∃ gs, insD O2 x = some (C, gs)) ∧ NotFirst K O2 C y ∧ sd [x, y] O2 (fun v O3 => ∃ b, v = .bl b ∧ Q (.bl (if neg then !b else b)) O3) E) E) E
end
end Dx
namespace PySem.W
open PySem PySem.Calls PyProof.Rows
section
variable {prog : Program} {w : World} {A : Around} {E : Value → Shared → Prop} {s : Shared} {K : Frag} {x C L f : Addr} {h₀ : Heap} {m : Str → Option Value} {ox : Obj} {od : Option Obj} {b tb : Value}
theorem objNe_call {Q : Value → Shared → Prop} (hu : A.units + 1 < cLine) (X : K.In s.heap) (I : InstAt s.heap x ox C od) (ho : mroIn K C (.type "object") = some true) (hs : findIn K (.ref C) "__eq__" = some (some (.ref f))) (hf : isFn K (.ref f) = true)
    (h : codeAny (model prog w) A.in1 (.call (.ref f) ⟨[.ref x, b], []⟩) (fun r s' => match r with
      | .ok (.ret v) => ∃ r, v = .bool r ∧ Q (.bool (!r)) s'
      | .ok _ => False
      | .error e => E e s') s) : wpAny (model prog w) A (call (.builtin "object.__ne__") [.ref x, b]) Q E s := by
  have sub : Looks (model prog w) s.heap (isInstance (.ref x) (.type "object")) true := I.type.andThen (looks_mroIn X ho)
  refine wpAny_call (codeAny_call_builtin PySem.F.cmp_object.ne.plain F.cmpEntry_ne (check_slot F.cmpKind_ne F.cmpSplit_ne sub (F.cmpArgs_ne _ _) ?_))
  obtain ⟨hp, g, d, t, os⟩ := s
  unfold Builtin.«object.__ne__»
  repeat (first | with_reducible refine wpAny_cRoomFor (show A.in1.units < cLine from hu) ?_ | with_reducible refine ifBound_K X I hs hf ?_ | wp_step)
  refine codeAny_mono h fun r s' hv => ?_
  match r, hv with
  | .error e, hv => exact hv
  | .ok (.ret v), hv =>
    obtain ⟨r, rfl, q⟩ := hv
    obtain ⟨hp', g', d', t', os'⟩ := s'
    wp_walk
    exact q
theorem cmp_ne_own {Q : Value → Shared → Prop} (hu : A.units + 1 < cLine) (F : Fr h₀ L s.heap m) (X₀ : K.In h₀) (I : InstAt s.heap x ox C od) (hb : Looks (model prog w) s.heap (typeOf b) tb) (hn : notFirst K C tb = true)
    (hne : findIn K (.ref C) "__ne__" = some (some (.builtin "object.__ne__"))) (ho : mroIn K C (.type "object") = some true) (hs : findIn K (.ref C) "__eq__" = some (some (.ref f))) (hf : isFn K (.ref f) = true)
    (h : codeAny (model prog w) A.in1 (.call (.ref f) ⟨[.ref x, b], []⟩) (fun r s' => match r with
      | .ok (.ret v) => ∃ r, v = .bool r ∧ Q (.bool (!r)) s'
      | .ok _ => False
      | .error e => E e s') s) : wpAny (model prog w) A (richCompare .NotEq (.ref x) b) Q E s := by
  have X := X₀.keeps F.keep
  have one : wpAny (model prog w) A (tryCompare (.ref x) (cmpInfo .NotEq).2.1 b) (fun r s' => ∃ v, r = some v ∧ Q v s') E s := by
    unfold tryCompare
    have hc := objNe_call (Q := fun v s' => ∃ r, v = .bool r ∧ Q v s') hu X I ho hs hf (codeAny_mono h fun r s' z => by
      match r, z with
      | .error e, z => exact z
      | .ok (.ret v), z => obtain ⟨r, e, q⟩ := z; exact ⟨r, e, _, rfl, q⟩)
    have sp : wpAny (model prog w) A (callSpecialIfBound? (.ref x) "__ne__" [b]) (fun o s' => ∃ r, o = some (.bool r) ∧ Q (.bool r) s') E s := by
      simp only [callSpecialIfBound?, bindSpecialIfBound?]
      refine wpAny_holding (wpAny_bind (wpAny_bind (wpAny_bind (I.type.here ((looks_findIn X hne).here ?_)))))
      have fin : wpAny (model prog w) A (call (.builtin "object.__ne__") ([.ref x] ++ [b]) >>= fun v => pure (some v)) (fun o s' => ∃ r, o = some (.bool r) ∧ Q (.bool r) s') E s :=
        wpAny_bind (wpAny_mono hc (fun v s' z => by obtain ⟨r, e, q⟩ := z; subst e; exact wpAny_pure ⟨r, rfl, q⟩) fun _ _ e => e)
      simp only [PySem.F.cmp_object.ne.bind]
      refine wpAny_bind (wpAny_askSetting (wpAny_ite ?_))
      split
      · exact wpAny_bind (wpAny_pure (wpAny_pure fin))
      · exact wpAny_tryCatch (wpAny_bind (wpAny_pure (wpAny_pure fin)))
    refine wpAny_bind (wpAny_mono sp (fun o s' z => ?_) fun _ _ e => e)
    obtain ⟨r, rfl, q⟩ := z
    exact wpAny_pure ⟨_, rfl, q⟩
  unfold richCompare
  simp only [oneThing_ref]
  refine wpAny_holding (wpAny_bind (wpAny_cRoomFor (Nat.lt_of_succ_lt hu) ?_))
  refine wpAny_bind (I.type.here (wpAny_bind (hb.here ?_)))
  split
  · rename_i q
    have e : subIn K tb (.ref C) = some false := by
      rcases Bool.or_eq_true_iff.mp hn with e | e
      · rw [beq_iff_eq.mp e] at q; simp at q
      · exact beq_iff_eq.mp e
    refine wpAny_bind ((looks_subIn X e).here ?_)
    simp only [Bool.false_eq_true, if_false]
    refine wpAny_bind (wpAny_mono one (fun r s' z => ?_) fun _ _ e => e)
    obtain ⟨v, rfl, hq⟩ := z
    exact wpAny_pure hq
  · refine wpAny_bind (wpAny_pure ?_)
    simp only [Bool.false_eq_true, if_false]
    refine wpAny_bind (wpAny_mono one (fun r s' z => ?_) fun _ _ e => e)
    obtain ⟨v, rfl, hq⟩ := z
    exact wpAny_pure hq
end
end PySem.W
namespace Dx
open PySem L2
/-- the right operand's class does not go first -/
def NotFst (K : PySem.W.Frag) (O : DH) (C : Addr) (d : D) : Prop := ∃ t, tyV O d = some t ∧ TyOkD K t ∧ PySem.W.notFirst K C t = true
/-- x == y, x != y by the own __eq__ of x's class -/
def dEqO (K : PySem.W.Frag) (C : Addr) (neg : Bool) (sd : SpD) (gD : List D → List D → List D) (ta tb : TD) : TD := fun ρ O Q E => ta ρ O (fun x O1 => tb ρ O1 (fun y O2 => (∃ gs, insD O2 x = some (C, gs)) ∧ NotFst K O2 C y ∧
  sd (gD [x, y] []) O2 (fun v O3 => ∃ b, v = .bl b ∧ Q (.bl (if neg = true then !b else b)) O3) E) E) E
section
variable {X : Cx} {W : WX} {k : Nat} {f C : Addr} {fd : FuncData} {ps : List Str} {sd : SpD} {a b : Expr} {pos : Pos} {ta tb : TD} {gD : List D → List D → List D}
/-- the callee, wherever the C stack stands -/
theorem runGA {A : Around} {pins : List (Addr × Obj)} {σ : L2.St} {H F : Hp} {O : DH} {s : Shared} {us : List Value} {vs : List V} {ds : List D} {Q : VK} {Qd : QD} {Ed : XD} {n : Nat} (G : FnG X.prog X.w X.K X.mg X.base k f fd ps sd) (hr : Room k A) (hgd : A.guards = some []) (hfr : A.frames = X.A.frames) (tk : Takes X W) (hb : Bnd X.K fd ps n [] gD)
    (I : Inv X pins σ H s) (r : Vals vs us) (ok : OkS X.K H F O) (rd : RepA X.K F ds vs) (hn : ds.length = n) (q : sd (gD ds []) O Qd Ed)
    (k1 : ∀ v H' F' d O', Same F F' → Rep X.K F' d v → OkS X.K H' F' O' → Qd d O' → Q v H') (xr : XRel X.K W F σ Ed) : codeAny (model X.prog X.w) A (.call (.ref f) ⟨us, []⟩) (fun r s' => match r with
      | .ok (.ret u) => EP X pins σ Q u s'
      | .ok _ => False
      | .error e => X.xe e s') s := by
  obtain ⟨vs', us', h1, h2, h3⟩ := hb.to F ds [] vs [] us [] s I.kIn rd r hn .nil .nil rfl
  have e0 : Env0 X.prog X.w X.K X.mg X.base A X.stack s H := by
    have e := I.env0
    exact ⟨by rw [hfr]; exact e.frames, e.mod, e.bs, e.bsz, e.funs, e.frf, e.hok, e.bare⟩
  refine codeAny_mono (G.run A X.stack s H ⟨us, []⟩ us' vs' Q (WE W σ) hr hgd e0 h3 h2 ⟨F, O, _, Qd, Ed, ok, h1, q, k1, fun cls dd H' F' fs O' e r ok q => xr cls dd H' F' fs O' e r ok q⟩) fun r s' hq => ?_
  cases r with
  | error e => exact passAt tk σ pins H s e s' I hq
  | ok fl =>
    cases fl with
    | ret u => exact I.after hq
    | next => exact hq
    | brk => exact hq
    | cont => exact hq
theorem de_eqO (G : FnG X.prog X.w X.K X.mg X.base k f fd ps sd) (hr : Room (k + 1) X.A) (hgd : X.A.guards = some []) (tk : Takes X W) (hb : Bnd X.K fd ps 2 [] gD) (hs : EqCls X.K C f) (ha : DE X W a ta) (hb' : DE X W b tb) (hm : behindInMarks .Eq b = false := by rfl) :
    DE X W (.Compare a [.Eq] [b] pos) (dEqO X.K C false sd gD ta tb) := ⟨fun pins s σ H Q I u => by
  obtain ⟨F, ρ, O, Qd, Ed, ok, env, td, k1, xr⟩ := u
  refine wpAny_Compare1 (thn (ha.run pins s σ H (fun v H1 => ∃ F1 d O1, Same F F1 ∧ Rep X.K F1 d v ∧ OkS X.K H1 F1 O1 ∧ _) I ⟨F, ρ, O, _, Ed, ok, env, td, fun v H1 F1 d O1 e1 r1 ok1 q1 => ⟨F1, d, O1, e1, r1, ok1, q1⟩, xr⟩) fun u1 s1 hq => ?_) hm
  obtain ⟨x, H1, I1, rx, F1, dx, O1, e1, r1, ok1, q1⟩ := hq
  refine thn (hb'.run pins s1 σ H1 (fun v H2 => ∃ F2 d O2, Same F1 F2 ∧ Rep X.K F2 d v ∧ OkS X.K H2 F2 O2 ∧ _) I1 ⟨F1, ρ, O1, _, Ed, ok1, env.mono e1, q1, fun v H2 F2 d O2 e2 r2 ok2 q2 => ⟨F2, d, O2, e2, r2, ok2, q2⟩, xr.mono e1⟩) fun u2 s2 hq => ?_
  obtain ⟨y, H2, I2, ry, F2, dy, O2, e2, r2, ok2, ⟨gs, hi⟩, ⟨t, ht, hto, hnf⟩, q⟩ := hq
  obtain ⟨a', dx', fs, rfl, h1, h2⟩ := insD_rep ok2 (r1.mono e2) hi
  obtain rfl : u1 = Value.ref a' := rx
  obtain ⟨mA, J, _⟩ := ins_get I2.hok h1
  obtain ⟨od, J, _⟩ := J.look
  obtain ⟨m, hF⟩ := I2.fr
  obtain ⟨P, Z, p, _⟩ := kit_of I2 ry (tyV_rep ok2 r2 ht hto)
  refine PySem.W.cmp_K (op := .Eq) hr.units0 hF I2.ok.mod.kin J (Z.ty _ _ I2.kIn p) hnf hs.1 hs.2 (wpAny_call (codeAny_mono (runGA (W := W) (vs := [.ref a', y]) G (hr.mono (Nat.le_succ k)) hgd rfl tk hb I2 (.cons rfl (.cons ry .nil)) ok2 (.cons (r1.mono e2) (.cons r2 .nil)) rfl q (Q := fun v H' => ∃ b, v = .bl b ∧ Q v H')
    (fun v H' F' d O' e rv ok' ⟨b, hb, hq⟩ => by subst hb; cases rv; exact ⟨b, rfl, k1 _ H' F' _ O' ((e1.trans e2).trans e) (.bl b) ok' (by simpa using hq)⟩) (xr.mono (e1.trans e2))) fun r s' z => ?_))
  match r, z with
  | .error e, z => exact z
  | .ok (.ret v), z =>
    obtain ⟨w, H', I', rw', ⟨b, eb, hq⟩⟩ := z
    subst eb
    obtain rfl : v = Value.bool b := rw'
    exact ⟨V.bl b, H', I', rfl, hq⟩⟩
theorem de_neO (G : FnG X.prog X.w X.K X.mg X.base k f fd ps sd) (hr : Room (k + 1) X.A) (hgd : X.A.guards = some []) (tk : Takes X W) (hb : Bnd X.K fd ps 2 [] gD) (hs : EqCls X.K C f) (hne : PySem.W.findIn X.K (.ref C) "__ne__" = some (some (.builtin "object.__ne__"))) (ho : PySem.W.mroIn X.K C (.type "object") = some true)
    (ha : DE X W a ta) (hb' : DE X W b tb) (hm : behindInMarks .NotEq b = false := by rfl) :
    DE X W (.Compare a [.NotEq] [b] pos) (dEqO X.K C true sd gD ta tb) := ⟨fun pins s σ H Q I u => by
  obtain ⟨F, ρ, O, Qd, Ed, ok, env, td, k1, xr⟩ := u
  refine wpAny_Compare1 (thn (ha.run pins s σ H (fun v H1 => ∃ F1 d O1, Same F F1 ∧ Rep X.K F1 d v ∧ OkS X.K H1 F1 O1 ∧ _) I ⟨F, ρ, O, _, Ed, ok, env, td, fun v H1 F1 d O1 e1 r1 ok1 q1 => ⟨F1, d, O1, e1, r1, ok1, q1⟩, xr⟩) fun u1 s1 hq => ?_) hm
  obtain ⟨x, H1, I1, rx, F1, dx, O1, e1, r1, ok1, q1⟩ := hq
  refine thn (hb'.run pins s1 σ H1 (fun v H2 => ∃ F2 d O2, Same F1 F2 ∧ Rep X.K F2 d v ∧ OkS X.K H2 F2 O2 ∧ _) I1 ⟨F1, ρ, O1, _, Ed, ok1, env.mono e1, q1, fun v H2 F2 d O2 e2 r2 ok2 q2 => ⟨F2, d, O2, e2, r2, ok2, q2⟩, xr.mono e1⟩) fun u2 s2 hq => ?_
  obtain ⟨y, H2, I2, ry, F2, dy, O2, e2, r2, ok2, ⟨gs, hi⟩, ⟨t, ht, hto, hnf⟩, q⟩ := hq
  obtain ⟨a', dx', fs, rfl, h1, h2⟩ := insD_rep ok2 (r1.mono e2) hi
  obtain rfl : u1 = Value.ref a' := rx
  obtain ⟨mA, J, _⟩ := ins_get I2.hok h1
  obtain ⟨od, J, _⟩ := J.look
  obtain ⟨m, hF⟩ := I2.fr
  obtain ⟨P, Z, p, _⟩ := kit_of I2 ry (tyV_rep ok2 r2 ht hto)
  refine PySem.W.cmp_ne_own (by have := hr.un; omega) hF I2.ok.mod.kin J (Z.ty _ _ I2.kIn p) hnf hne ho hs.1 hs.2 (codeAny_mono (runGA (W := W) (vs := [.ref a', y]) G hr.in1 hgd rfl tk hb I2 (.cons rfl (.cons ry .nil)) ok2 (.cons (r1.mono e2) (.cons r2 .nil)) rfl q (Q := fun v H' => ∃ b, v = .bl b ∧ Q (.bl (!b)) H')
    (fun v H' F' d O' e rv ok' ⟨b, hb, hq⟩ => by subst hb; cases rv; exact ⟨b, rfl, k1 _ H' F' _ O' ((e1.trans e2).trans e) (.bl (!b)) ok' (by simpa using hq)⟩) (xr.mono (e1.trans e2))) fun r s' z => ?_)
  match r, z with
  | .error e, z => exact z
  | .ok (.ret v), z =>
    obtain ⟨w, H', I', rw', ⟨b, eb, hq⟩⟩ := z
    subst eb
    obtain rfl : v = Value.bool b := rw'
    exact ⟨b, rfl, V.bl (!b), H', I', rfl, hq⟩⟩
/-- as a test -/
theorem dt_eqO (G : FnG X.prog X.w X.K X.mg X.base k f fd ps sd) (hr : Room (k + 1) X.A) (hgd : X.A.guards = some []) (tk : Takes X W) (hb : Bnd X.K fd ps 2 [] gD) (hs : EqCls X.K C f) (ha : DE X W a ta) (hb' : DE X W b tb) (hm : behindInMarks .Eq b = false := by rfl) :
    DT X W (.Compare a [.Eq] [b] pos) (dTst (dEqO X.K C false sd gD ta tb)) := ⟨fun pins s σ H Q I u => by
  obtain ⟨F, ρ, O, Qd, Ed, ok, env, td, k1, xr⟩ := u
  refine wpAny_isTrue_Compare1 (thn (ha.run pins s σ H (fun v H1 => ∃ F1 d O1, Same F F1 ∧ Rep X.K F1 d v ∧ OkS X.K H1 F1 O1 ∧ _) I ⟨F, ρ, O, _, Ed, ok, env, td, fun v H1 F1 d O1 e1 r1 ok1 q1 => ⟨F1, d, O1, e1, r1, ok1, q1⟩, xr⟩) fun u1 s1 hq => ?_) hm
  obtain ⟨x, H1, I1, rx, F1, dx, O1, e1, r1, ok1, q1⟩ := hq
  refine thn (hb'.run pins s1 σ H1 (fun v H2 => ∃ F2 d O2, Same F1 F2 ∧ Rep X.K F2 d v ∧ OkS X.K H2 F2 O2 ∧ _) I1 ⟨F1, ρ, O1, _, Ed, ok1, env.mono e1, q1, fun v H2 F2 d O2 e2 r2 ok2 q2 => ⟨F2, d, O2, e2, r2, ok2, q2⟩, xr.mono e1⟩) fun u2 s2 hq => ?_
  obtain ⟨y, H2, I2, ry, F2, dy, O2, e2, r2, ok2, ⟨gs, hi⟩, ⟨t, ht, hto, hnf⟩, q⟩ := hq
  obtain ⟨a', dx', fs, rfl, h1, h2⟩ := insD_rep ok2 (r1.mono e2) hi
  obtain rfl : u1 = Value.ref a' := rx
  obtain ⟨mA, J, _⟩ := ins_get I2.hok h1
  obtain ⟨od, J, _⟩ := J.look
  obtain ⟨m, hF⟩ := I2.fr
  obtain ⟨P, Z, p, _⟩ := kit_of I2 ry (tyV_rep ok2 r2 ht hto)
  refine PySem.W.cmp_K (op := .Eq) hr.units0 hF I2.ok.mod.kin J (Z.ty _ _ I2.kIn p) hnf hs.1 hs.2 (wpAny_call (codeAny_mono (runGA (W := W) (vs := [.ref a', y]) G (hr.mono (Nat.le_succ k)) hgd rfl tk hb I2 (.cons rfl (.cons ry .nil)) ok2 (.cons (r1.mono e2) (.cons r2 .nil)) rfl q (Q := fun v H' => ∃ b, v = .bl b ∧ Q b H')
    (fun v H' F' d O' e rv ok' ⟨b, hb, hq⟩ => by subst hb; cases rv; exact ⟨b, rfl, k1 _ H' F' O' ((e1.trans e2).trans e) ok' (by simpa using hq)⟩) (xr.mono (e1.trans e2))) fun r s' z => ?_))
  match r, z with
  | .error e, z => exact z
  | .ok (.ret v), z =>
    obtain ⟨w, H', I', rw', ⟨b, eb, hq⟩⟩ := z
    subst eb
    obtain rfl : v = Value.bool b := rw'
    exact wpAny_truthy_bool ⟨H', I', hq⟩⟩
theorem dt_neO (G : FnG X.prog X.w X.K X.mg X.base k f fd ps sd) (hr : Room (k + 1) X.A) (hgd : X.A.guards = some []) (tk : Takes X W) (hb : Bnd X.K fd ps 2 [] gD) (hs : EqCls X.K C f) (hne : PySem.W.findIn X.K (.ref C) "__ne__" = some (some (.builtin "object.__ne__"))) (ho : PySem.W.mroIn X.K C (.type "object") = some true)
    (ha : DE X W a ta) (hb' : DE X W b tb) (hm : behindInMarks .NotEq b = false := by rfl) :
    DT X W (.Compare a [.NotEq] [b] pos) (dTst (dEqO X.K C true sd gD ta tb)) := ⟨fun pins s σ H Q I u => by
  obtain ⟨F, ρ, O, Qd, Ed, ok, env, td, k1, xr⟩ := u
  refine wpAny_isTrue_Compare1 (thn (ha.run pins s σ H (fun v H1 => ∃ F1 d O1, Same F F1 ∧ Rep X.K F1 d v ∧ OkS X.K H1 F1 O1 ∧ _) I ⟨F, ρ, O, _, Ed, ok, env, td, fun v H1 F1 d O1 e1 r1 ok1 q1 => ⟨F1, d, O1, e1, r1, ok1, q1⟩, xr⟩) fun u1 s1 hq => ?_) hm
  obtain ⟨x, H1, I1, rx, F1, dx, O1, e1, r1, ok1, q1⟩ := hq
  refine thn (hb'.run pins s1 σ H1 (fun v H2 => ∃ F2 d O2, Same F1 F2 ∧ Rep X.K F2 d v ∧ OkS X.K H2 F2 O2 ∧ _) I1 ⟨F1, ρ, O1, _, Ed, ok1, env.mono e1, q1, fun v H2 F2 d O2 e2 r2 ok2 q2 => ⟨F2, d, O2, e2, r2, ok2, q2⟩, xr.mono e1⟩) fun u2 s2 hq => ?_
  obtain ⟨y, H2, I2, ry, F2, dy, O2, e2, r2, ok2, ⟨gs, hi⟩, ⟨t, ht, hto, hnf⟩, q⟩ := hq
  obtain ⟨a', dx', fs, rfl, h1, h2⟩ := insD_rep ok2 (r1.mono e2) hi
  obtain rfl : u1 = Value.ref a' := rx
  obtain ⟨mA, J, _⟩ := ins_get I2.hok h1
  obtain ⟨od, J, _⟩ := J.look
  obtain ⟨m, hF⟩ := I2.fr
  obtain ⟨P, Z, p, _⟩ := kit_of I2 ry (tyV_rep ok2 r2 ht hto)
  refine PySem.W.cmp_ne_own (by have := hr.un; omega) hF I2.ok.mod.kin J (Z.ty _ _ I2.kIn p) hnf hne ho hs.1 hs.2 (codeAny_mono (runGA (W := W) (vs := [.ref a', y]) G hr.in1 hgd rfl tk hb I2 (.cons rfl (.cons ry .nil)) ok2 (.cons (r1.mono e2) (.cons r2 .nil)) rfl q (Q := fun v H' => ∃ b, v = .bl b ∧ Q (!b) H')
    (fun v H' F' d O' e rv ok' ⟨b, hb, hq⟩ => by subst hb; cases rv; exact ⟨b, rfl, k1 _ H' F' O' ((e1.trans e2).trans e) ok' (by simpa using hq)⟩) (xr.mono (e1.trans e2))) fun r s' z => ?_)
  match r, z with
  | .error e, z => exact z
  | .ok (.ret v), z =>
    obtain ⟨w, H', I', rw', ⟨b, eb, hq⟩⟩ := z
    subst eb
    obtain rfl : v = Value.bool b := rw'
    exact ⟨b, rfl, wpAny_truthy_bool ⟨H', I', hq⟩⟩⟩
end
end Dx
namespace Dx
open PySem L2
/-! ### own errors over ValueError whose __init__ calls the base's and keeps fields -/
section
variable {X : Cx} {W : WX} {o e : Expr} {es : List Expr} {to te : TE} {ta : TA} {f x : Str} {p p' p1 p2 pos : Pos} {CT : Addr} {mc : Value}
/-- T.__init__(self, ..), T an own class that has ValueError's -/
theorem pe_baseinit {pl : Sem Bool} (hg : Gl X x) (hm : X.mg x = some (.ref CT)) (r : ClX.CRead X.K CT mc) (vV : PySem.W.findCls X.K (.ref CT) mc "__init__" = some (.val (.builtin "ValueError.__init__"))) (ha : PA X (e :: es) ta) (hdb : (x == ("__debug__" : Str)) = false := by decide)
    (hc : eval (.Call (.Attribute (.Name x p1) "__init__" p2) (e :: es) [] pos) X.env = (do
      let ov ← eval (.Name x p1) X.env
      standAt p2.atName
      let (f, first) ← holding [ov] (getMethod ov "__init__" pl)
      callWith pos f first (backTo pos (starEach (e :: es) X.env)) (backToKw pos (keywordEach [] X.env))) := by rfl)
    (he : starEach (e :: es) X.env = (false, eval e X.env) :: starEach es X.env := by rfl) (hpl : (backTo pos (starEach es X.env)).any (·.1) = false := by rfl) :
    PE X (.Call (.Attribute (.Name x p1) "__init__" p2) (e :: es) [] pos) (tVeI X.K ta) := by
  refine ⟨fun pins s σ H Q I h => ?_⟩
  refine PySem.W.methodCall_KW (ld_glob I hg hm ?_ hdb) hc
  refine PySem.W.method_cls I.kIn r.ga (PySem.W.cls_value I.kIn r.rd vV (by decide +kernel) ?_)
  show wpAny _ _ (callWith pos (Value.builtin "ValueError.__init__") [] (backTo pos (starEach (e :: es) X.env)) []) _ _ _
  refine PyProof.Rows.callWith_method1 (thn (ha.run pos pins _ σ H _ (I.tok _) h) fun us s1 ⟨vs, H1, I1, r1, a, C, ws, ev, hl, T, ea, q⟩ => ?_) he hpl
  subst ev
  cases r1 with
  | @cons _ u0 _ ur ra rw' =>
    obtain rfl : u0 = Value.ref a := ra
    exact oinit_ok T I1 ea (by rw [← Paired.length rw', sizeLine_eq]; omega) fun s' J => ⟨.non, H1, J, rfl, q⟩
end
/-- what the __init__ of such a class promises: one field, two fields -/
def spIni1 (K : PySem.W.Frag) (f : Str) : Sp := fun vs H Q _ => ∃ (a C : Addr) (w : V), vs = [.ref a, w] ∧ OexC K C ∧ NoAttr K C f ∧ H a = some (exo a C none) ∧ ∀ dx, H dx = none → dx ≠ a → Q .non (upd (upd H dx (exd dx [(f, w)])) a (exo a C (some dx)))
def spIni2 (K : PySem.W.Frag) (f g : Str) : Sp := fun vs H Q _ => ∃ (a C : Addr) (w z : V), vs = [.ref a, w, z] ∧ OexC K C ∧ NoAttr K C f ∧ NoAttr K C g ∧ H a = some (exo a C none) ∧
  ∀ dx, H dx = none → dx ≠ a → Q .non (upd (upd (upd H dx (exd dx [(f, w)])) a (exo a C (some dx))) dx (exd dx [(g, z), (f, w)]))
def tIni1 (K : PySem.W.Frag) (m : Str) (f : Str) : TS := tSeq (tDrop (tVeI K (tCons (tVar 0) (tCons (tC (.str m)) tNil)))) (tOst K f (tVar 0) (tVar 1))
def tIni2 (K : PySem.W.Frag) (m : Str) (f g : Str) : TS := tSeq (tDrop (tVeI K (tCons (tVar 0) (tCons (tC (.str m)) tNil)))) (tSeq (tOst K f (tVar 0) (tVar 1)) (tOst K g (tVar 0) (tVar 2)))
theorem pure_ini1 {K : PySem.W.Frag} {m f : Str} {N : List Str} {vs : List V} {H : Hp} {Q : VK} {E : XK} (h : spIni1 K f vs H Q E) : tIni1 K m f { nx := fun _ H' => Q .non H', rt := Q } (start N vs) H := by
  obtain ⟨a, C, w, rfl, T, n, ea, q⟩ := h
  exact ⟨_, rfl, a, C, [.str m], rfl, (by show 1 ≤ 1000; decide), T, ea, _, rfl, _, rfl, a, C, rfl, T, n, .inl ⟨ea, q⟩⟩
theorem pure_ini2 {K : PySem.W.Frag} {m f g : Str} {N : List Str} {vs : List V} {H : Hp} {Q : VK} {E : XK} (h : spIni2 K f g vs H Q E) : tIni2 K m f g { nx := fun _ H' => Q .non H', rt := Q } (start N vs) H := by
  obtain ⟨a, C, w, z, rfl, T, n, n2, ea, q⟩ := h
  refine ⟨_, rfl, a, C, [.str m], rfl, (by show 1 ≤ 1000; decide), T, ea, _, rfl, _, rfl, a, C, rfl, T, n, .inl ⟨ea, fun dx h1 h2 => ?_⟩⟩
  exact ⟨_, rfl, _, rfl, a, C, rfl, T, n2, .inr ⟨dx, [(f, w)], upd_same, by rw [upd_ne h2]; exact upd_same, (by show 1 ≤ 900; decide), q dx h1 h2⟩⟩
/-- raise C(e), C keeping the field f; raise C(e, e2) -/
def dRaise1 (C : Addr) (f : Str) (ta : TD) : TDS := fun E ρ O => ta ρ O (fun d O1 => E.ex (.ref C) [(f, d)] ρ O1) fun c g O' => E.ex c g ρ O'
def dRaise2 (C : Addr) (f g : Str) (ta tb : TD) : TDS := fun E ρ O => ta ρ O (fun d O1 => tb ρ O1 (fun d2 O2 => E.ex (.ref C) [(g, d2), (f, d)] ρ O2) fun c h O' => E.ex c h ρ O') fun c h O' => E.ex c h ρ O'
theorem same_xd {F H1 H2 : Hp} {a d : Addr} {o : HO} (e : Same F H1) (ha : H1 a = none) (hd : H1 d = none) (h : ∀ b, b ≠ a → b ≠ d → H2 b = H1 b) : Same (upd F d o) (upd (del H2 a) d o) := fun b u q => by
  by_cases hb : b = d
  · subst hb; rw [upd_same] at q ⊢; exact q
  · rw [upd_ne hb] at q ⊢
    have q1 := e b u q
    have hba : b ≠ a := fun z => by rw [z, ha] at q1; cases q1
    rw [del_ne hba, h b hba hb]
    exact q1
theorem oks_xd {K : PySem.W.Frag} {F H1 H2 : Hp} {O : DH} {a d : Addr} {o : HO} (k : OkS K H1 F O) (ha : H1 a = none) (hd : H1 d = none) (h : ∀ b, b ≠ a → b ≠ d → H2 b = H1 b) : OkS K (upd (del H2 a) d o) (upd F d o) O ∧ Same F (upd F d o) := by
  have fd : F d = none := k.ex.free hd
  have e : Same F (upd F d o) := fun b u q => by rw [upd_ne (ne_of_none q fd)]; exact q
  refine ⟨⟨same_xd k.ex ha hd h, fun b m hb => ?_⟩, e⟩
  obtain ⟨h1, h2⟩ := k.own b m hb
  obtain ⟨u, hu⟩ := h2.some
  have nd : b ≠ d := ne_of_none hu hd
  have na : b ≠ a := ne_of_none hu ha
  exact ⟨by rw [upd_ne nd]; exact h1, h2.mono e (by rw [upd_ne nd, del_ne na, h b na nd])⟩
section
variable {X : Cx} {W : WX} {e e2 : Expr} {ta tb : TD} {f g x : Str} {p pos pos' : Pos} {C fI : Addr} {fd : FuncData} {ps : List Str} {CX : CXT} {k : Nat}
theorem ds_raise1 (hc : X.calm = true) (tk : Takes X W) (T : OexC X.K C) (iC : PySem.W.findIn X.K (.ref C) "__init__" = some (some (.ref fI))) (tI : PySem.W.typeIn X.K (.ref fI) = some (.type "function")) (na : NoAttr X.K C f)
    (F1 : FnOk X.prog X.w X.K X.mg X.base CX k fI fd ps (spIni1 X.K f)) (hr : Room (k + 1) X.A) (hb : Binds X.K fd ps []) (hx : Passes CX X (fun _ _ _ => False)) (hg : Gl X x) (hm : X.mg x = some (.ref C)) (ha : DE X W e ta)
    (hdb : (x == ("__debug__" : Str)) = false := by decide) (he : starEach [e] X.env = (false, eval e X.env) :: starEach [] X.env := by rfl) (hpl : (backTo pos (starEach [] X.env)).any (·.1) = false := by rfl) :
    DS X W (.Raise (some (.Call (.Name x p) [e] [] pos)) none pos') (dRaise1 C f ta) := ps_imp (ps_raise hc tk (pmk_oex (ds := []) (dvs := []) T iC tI F1 hr hb .nil hx hg hm (pa_cons ha pa_nil he) hdb he hpl)) fun E σ H u => by
  obtain ⟨F, ρ, O, Dd, ok, env, td, x'⟩ := u
  refine ⟨F, ρ, O, _, _, ok, env, td, fun v H1 F1 d O1 e1 r1 ok1 q1 => ⟨by show 1 ≤ 1000; decide, fun a ha1 => ?_⟩, x'.xr env⟩
  have up1 : upd H1 a (exo a C none) a = some (exo a C none) := upd_same
  refine ⟨a, C, v, rfl, T, na, up1, fun dx hdx hne => ⟨rfl, dx, [(f, v)], upd_same, by rw [upd_ne hne]; exact upd_same, ?_, ?_⟩⟩
  · rw [upd_ne hne] at hdx; exact hdx
  · rw [upd_ne hne] at hdx
    obtain ⟨ok2, e2⟩ := oks_xd (H2 := upd (upd (upd H1 a (exo a C none)) dx (exd dx [(f, v)])) a (exo a C (some dx))) (o := .xd [(f, v)]) ok1 ha1 hdx fun b hba hbd => by rw [upd_ne hba, upd_ne hbd, upd_ne hba]
    exact x'.ex _ _ _ _ _ _ _ _ (e1.trans e2) (.inr ⟨dx, _, rfl, upd_same, .cons (r1.mono e2) .nil⟩) ok2 (env.mono (e1.trans e2)) q1
theorem ds_raise2 (hc : X.calm = true) (tk : Takes X W) (T : OexC X.K C) (iC : PySem.W.findIn X.K (.ref C) "__init__" = some (some (.ref fI))) (tI : PySem.W.typeIn X.K (.ref fI) = some (.type "function")) (na : NoAttr X.K C f) (na2 : NoAttr X.K C g)
    (F1 : FnOk X.prog X.w X.K X.mg X.base CX k fI fd ps (spIni2 X.K f g)) (hr : Room (k + 1) X.A) (hb : Binds X.K fd ps []) (hx : Passes CX X (fun _ _ _ => False)) (hg : Gl X x) (hm : X.mg x = some (.ref C)) (ha : DE X W e ta) (hb2 : DE X W e2 tb)
    (hdb : (x == ("__debug__" : Str)) = false := by decide) (he : starEach [e, e2] X.env = (false, eval e X.env) :: starEach [e2] X.env := by rfl) (he2 : starEach [e2] X.env = (false, eval e2 X.env) :: starEach [] X.env := by rfl) (hpl : (backTo pos (starEach [e2] X.env)).any (·.1) = false := by rfl) :
    DS X W (.Raise (some (.Call (.Name x p) [e, e2] [] pos)) none pos') (dRaise2 C f g ta tb) := ps_imp (ps_raise hc tk (pmk_oex (ds := []) (dvs := []) T iC tI F1 hr hb .nil hx hg hm (pa_cons ha (pa_cons hb2 pa_nil he2) he) hdb he hpl)) fun E σ H u => by
  obtain ⟨F, ρ, O, Dd, ok, env, td, x'⟩ := u
  refine ⟨F, ρ, O, _, _, ok, env, td, fun v H1 F1 d O1 e1 r1 ok1 q1 => ?_, x'.xr env⟩
  refine ⟨F1, ρ, O1, _, _, ok1, env.mono e1, q1, fun v2 H2 F2 d2 O2 e2 r2 ok2 q2 => ⟨by show 2 ≤ 1000; decide, fun a ha1 => ?_⟩, (x'.mono e1).xr (env.mono e1)⟩
  have up1 : upd H2 a (exo a C none) a = some (exo a C none) := upd_same
  refine ⟨a, C, v, v2, rfl, T, na, na2, up1, fun dx hdx hne => ⟨rfl, dx, [(g, v2), (f, v)], by rw [upd_ne hne.symm]; exact upd_same, upd_same, ?_, ?_⟩⟩
  · rw [upd_ne hne] at hdx; exact hdx
  · rw [upd_ne hne] at hdx
    obtain ⟨ok3, e3⟩ := oks_xd (H2 := upd (upd (upd (upd H2 a (exo a C none)) dx (exd dx [(f, v)])) a (exo a C (some dx))) dx (exd dx [(g, v2), (f, v)])) (o := .xd [(g, v2), (f, v)]) ok2 ha1 hdx fun b hba hbd => by rw [upd_ne hbd, upd_ne hba, upd_ne hbd, upd_ne hba]
    exact x'.ex _ _ _ _ _ _ _ _ ((e1.trans e2).trans e3) (.inr ⟨dx, _, rfl, upd_same, .cons (r2.mono e3) (.cons (r1.mono (e2.trans e3)) .nil)⟩) ok3 (env.mono ((e1.trans e2).trans e3)) q2
end
end Dx
namespace Dx
open PySem L2
/-! ### try .. except c as n -/
def suiteE (i : Nat) (E : DEnds) : DEnds where
  nx := fun ρ' O' => E.nx (ρ'.set i none) O'
  rt := E.rt
  bk := fun ρ' O' => E.bk (ρ'.set i none) O'
  ct := fun ρ' O' => E.ct (ρ'.set i none) O'
  ex := fun _ _ _ _ => False
def dTryAs (K : PySem.W.Frag) (c : Value) (i : Nat) (tb : TDS) (ts : Addr → Value → Option Addr → TDS) : TDS := fun E ρ O => tb { E with ex := fun cls fs ρ1 O1 => ∃ b, PySem.W.exmOne K cls c = some b ∧
  (b = true → fs ≠ [] ∧ ∀ a dd, ts a cls (some dd) (suiteE i E) (ρ1.set i (some (.exc a dd fs))) O1) ∧ (b = false → E.ex cls fs ρ1 O1) } ρ O
section
variable {X : Cx} {W : WX} {x n : Str} {c : Value} {i : Nat} {body suite : List Stmt} {b₀ : Stmt} {np pos pos' : Pos} {tb : TDS} {ts : Addr → Value → Option Addr → TDS}
theorem ds_tryAs (hs : X.stack = X.env :: X.outer) (hf : X.env.frame = some X.env.locals) (hN : X.N.Nodup) (hi : X.N[i]? = some n) (hln : X.env.kindOf n = some .local) (hc : Names X x c) (tk : Takes X W)
    (hb : ∀ (W' : WX) (pn : List (Addr × Obj)) (xe : Value → Shared → Prop), Takes (X.tr pn xe) W' → PassesOwn (model X.prog X.w) X.A X.env xe → DSs (X.tr pn xe) W' body tb)
    (hsu : ∀ (a : Addr) (oe : Obj) (cls : Value) (d : Option Addr) (pn : List (Addr × Obj)), Zc cls d oe → (∃ vs, oe.data = .fields vs) → DSs (X.suite a ((a, oe) :: pn)) WNo (b₀ :: suite) (ts a cls d)) :
    DS X W (.Try body [.ExceptHandler (some (.Name x np)) (some n) (b₀ :: suite) pos'] [] [] pos) (dTryAs X.K c i tb ts) :=
  ps_imp (ps_try_as (tb := fun W => upS X.K W tb) (ts := fun a cls d => upS X.K WNo (ts a cls d)) hs hf hN hi hln hc tk hb hsu) fun Dn σ H u => by
    obtain ⟨F, ρ, O, Dd, ok, env, td, x'⟩ := u
    refine ⟨F, ρ, O, _, ok, env, td, ⟨x'.nx, x'.bk, x'.ct, x'.rt, fun cls dd σ' H' F' fs ρ' O' e er ok' env' hq => ?_⟩⟩
    obtain ⟨b, hb', h1, h2⟩ := hq
    refine ⟨b, hb', fun hbt a ha => ?_, fun hbf => x'.ex cls dd σ' H' F' fs ρ' O' e er ok' env' (h2 hbf)⟩
    obtain ⟨hne, hts⟩ := h1 hbt
    rcases er with ⟨_, er⟩ | ⟨d, xs, rfl, hd, rf⟩
    · exact absurd er hne
    · exact ⟨F', _, O', _, ok', env'.set (.exc hd rf) i, hts a d, ⟨fun _ _ _ _ _ e2 ok2 env2 q => x'.nx _ _ _ _ _ (e.trans e2) ok2 (env2.unset i none) q, fun _ _ _ _ _ e2 ok2 env2 q => x'.bk _ _ _ _ _ (e.trans e2) ok2 (env2.unset i none) q,
        fun _ _ _ _ _ e2 ok2 env2 q => x'.ct _ _ _ _ _ (e.trans e2) ok2 (env2.unset i none) q, fun _ _ _ _ _ e2 r2 ok2 q => x'.rt _ _ _ _ _ (e.trans e2) r2 ok2 q, fun _ _ _ _ _ _ _ _ _ _ _ _ q => q.elim⟩⟩
end
/-- n.f in the suite, n the caught error -/
def dXf (a : Addr) (cls : Value) (d : Option Addr) (C : Addr) (f : Str) (ta : TD) : TD := fun ρ O Q E => ta ρ O (fun x O1 => match x with
  | .exc a' dd fs => a' = a ∧ cls = .ref C ∧ d = some dd ∧ (match fs.lookup f with
    | some v => Q v O1
    | none => False)
  | _ => False) E
theorem de_xf {X : Cx} {W : WX} {a C : Addr} {oe : Obj} {cls : Value} {d : Option Addr} {pn : List (Addr × Obj)} {e : Expr} {ta : TD} {pos : Pos} {n : Str} (T : XfC X.K C) (hno : PySem.W.findIn X.K (.ref C) n = some none)
    (hz : Zc cls d oe) (hf : ∃ vs, oe.data = .fields vs) (he : DE (X.suite a ((a, oe) :: pn)) W e ta) (hb : attributeBase e n X.env (eval e X.env) = eval e X.env := by rfl) :
    DE (X.suite a ((a, oe) :: pn)) W (.Attribute e n pos) (dXf a cls d C n ta) := pe_imp (pe_xf T hno hz hf he hb) fun σ H Q u => by
  obtain ⟨F, ρ, O, Qd, Ed, ok, env, td, k, xr⟩ := u
  refine ⟨F, ρ, O, _, Ed, ok, env, td, fun v H1 F1 d1 O1 e1 r1 ok1 q1 => ?_, xr⟩
  split at q1
  · obtain ⟨rfl, ec, ed, q1⟩ := q1
    cases r1 with
    | exc h1 h2 =>
      split at q1
      · next v' hl =>
        obtain ⟨w, hw, rw'⟩ := h2.lookup hl
        exact ⟨rfl, ec, _, _, w, ed, ok1.ex _ _ h1, hw, k w H1 F1 v' O1 e1 rw' ok1 q1⟩
      · exact q1.elim
  · exact q1.elim
/-! ### what a class must have, told by the text -/
def eqB (a b : Option (Option Value)) : Bool := decide (a = b)
/-- an own error class -/
def oexB (K : PySem.W.Frag) (C : Addr) : Bool := (match K.lookup C with
  | some ⟨.type "type", _, .cls cd, sl⟩ => (match cd.mro, sl.toList with
    | .ref C' :: bm, [_, _, _, _, some (.builtin n), _] => decide (C' = C) && (decide (n = "ValueError.__new__") && (!cd.hasDel && (cd.hasDict && PySem.HandSPX.refsVE bm)))
    | _, _ => false)
  | _ => false) && (eqB (PySem.W.findIn K (.ref C) "__setattr__") (some (some (.builtin "object.__setattr__"))) && (decide (PySem.W.subIn K (.ref C) (.type "BaseException") = some true) && (decide (PySem.W.typeIn K (.ref C) = some (.type "type")) && PySem.W.keepIn K (.ref C))))
theorem band {a b : Bool} (h : (a && b) = true) : a = true ∧ b = true := Bool.and_eq_true_iff.mp h
theorem oexB_ok {K : PySem.W.Frag} {C : Addr} (h : oexB K C = true) : OexC K C := by
  unfold oexB at h
  obtain ⟨h1, h⟩ := band h
  obtain ⟨h2, h⟩ := band h
  obtain ⟨h3, h⟩ := band h
  obtain ⟨h4, h5⟩ := band h
  refine ⟨?_, of_decide_eq_true h2, of_decide_eq_true h3, of_decide_eq_true h4, h5⟩
  split at h1
  · rename_i dd cd sl ho
    split at h1
    · rename_i C' bm k0 k1 k2 k3 n k5 hm hs
      obtain ⟨z1, h1⟩ := band h1
      obtain ⟨z2, h1⟩ := band h1
      obtain ⟨z3, h1⟩ := band h1
      obtain ⟨z4, z5⟩ := band h1
      have y1 := of_decide_eq_true z1
      have y2 := of_decide_eq_true z2
      subst y1 y2
      obtain ⟨nm, bs, mro, ns, qn, hd, sn, sub, ab, col, del⟩ := cd
      dsimp only at hm z3 z4
      have y3 : del = false := by simpa using z3
      subst hm y3 z4
      have hsl : sl = #[k0, k1, k2, k3, some (.builtin "ValueError.__new__"), k5] := by
        obtain ⟨l⟩ := sl
        exact congrArg Array.mk hs
      subst hsl
      exact ⟨nm, qn, ns, bs, bm, sn, sub, ab, col, dd, k0, k1, k2, k3, k5, ho, z5⟩
    · cases h1
  · cases h1
/-- the function at f that the class C finds under m -/
def fnAtB (K : PySem.W.Frag) (C f : Addr) (m : Str) : Bool := eqB (PySem.W.findIn K (.ref C) m) (some (some (.ref f))) && (decide (PySem.W.typeIn K (.ref f) = some (.type "function")) && PySem.W.keepIn K (.ref f))
theorem fnAtB_ok {K : PySem.W.Frag} {C f : Addr} {m : Str} (h : fnAtB K C f m = true) : PySem.W.findIn K (.ref C) m = some (some (.ref f)) ∧ PySem.W.typeIn K (.ref f) = some (.type "function") ∧ PySem.W.keepIn K (.ref f) = true := by
  obtain ⟨h1, h⟩ := band h
  obtain ⟨h2, h3⟩ := band h
  exact ⟨of_decide_eq_true h1, of_decide_eq_true h2, h3⟩
theorem fnAt_meth {K : PySem.W.Frag} {C f : Addr} {m : Str} (h : fnAtB K C f m = true) : Meth K C m f := by
  obtain ⟨h1, h2, h3⟩ := fnAtB_ok h
  exact ⟨h1, by unfold PySem.W.isFn; rw [h2]; rfl, h3⟩
theorem fnAt_eq {K : PySem.W.Frag} {C f : Addr} (h : fnAtB K C f "__eq__" = true) : EqCls K C f := ⟨(fnAt_meth h).at_, (fnAt_meth h).fn⟩
def noAtB (K : PySem.W.Frag) (C : Addr) (f : Str) : Bool := eqB (PySem.W.findIn K (.ref C) f) (some none)
theorem noAtB_ok {K : PySem.W.Frag} {C : Addr} {f : Str} (h : noAtB K C f = true) : NoAttr K C f := show PySem.W.findIn K (.ref C) f = some none from of_decide_eq_true h
/-- the base of the own errors -/
def baseB (K : PySem.W.Frag) (C : Addr) : Bool := PySem.W.readsIn K C (.type "type") && (eqB (PySem.W.specialIn K (.ref C) "__getattribute__") (some (some (.builtin "type.__getattribute__"))) && (match PySem.W.findCls K (.ref C) (.type "type") "__init__" with
  | some (.val (.builtin n)) => decide (n = "ValueError.__init__")
  | _ => false))
theorem baseB_ok {K : PySem.W.Frag} {C : Addr} (h : baseB K C = true) : ClX.CRead K C (.type "type") ∧ PySem.W.findCls K (.ref C) (.type "type") "__init__" = some (.val (.builtin "ValueError.__init__")) := by
  obtain ⟨h1, h⟩ := band h
  obtain ⟨h2, h3⟩ := band h
  refine ⟨⟨h1, of_decide_eq_true h2⟩, ?_⟩
  split at h3
  · rename_i n hn
    rw [hn, of_decide_eq_true h3]
  · cases h3
/-- a plain own class -/
def clsB (K : PySem.W.Frag) (C : Addr) : Bool := PySem.W.plainGet K C Str.empty && (PySem.W.hasDictIn K C && (PySem.W.plainOver K C && (eqB (PySem.W.findIn K (.ref C) "__setattr__") (some (some (.builtin "object.__setattr__"))) &&
  (eqB (PySem.W.findIn K (.ref C) "__class__") (some (some (.builtin "object.__class__"))) && (eqB (PySem.W.specialIn K (.builtin "object.__class__") "__get__") (some (some (.builtin "getset_descriptor.__get__"))) &&
  (decide (PySem.W.takesIn K (.builtin "object.__class__") = some true) && decide (PySem.W.mroIn K C (.type "object") = some true)))))))
theorem clsB_ok {K : PySem.W.Frag} {C : Addr} (h : clsB K C = true) : InsOk K C := by
  obtain ⟨h1, h⟩ := band h
  obtain ⟨h2, h⟩ := band h
  obtain ⟨h3, h⟩ := band h
  obtain ⟨h4, h⟩ := band h
  obtain ⟨h5, h⟩ := band h
  obtain ⟨h6, h⟩ := band h
  obtain ⟨h7, h8⟩ := band h
  exact ⟨⟨h1, h2, h3, of_decide_eq_true h4⟩, of_decide_eq_true h5, of_decide_eq_true h6, of_decide_eq_true h7, of_decide_eq_true h8⟩
theorem fld_of {K : PySem.W.Frag} {C : Addr} {f : Str} (c : InsOk K C) (h : noAtB K C f = true) : FldOk K C f := ⟨c.1, noAtB_ok h⟩
def mkB (K : PySem.W.Frag) (C f : Addr) : Bool := PySem.W.makesIn K C && (fnAtB K C f "__init__" && PySem.W.keepIn K (.ref C))
theorem mkB_ok {K : PySem.W.Frag} {C f : Addr} (h : mkB K C f = true) : Mk K C f := by
  obtain ⟨h1, h⟩ := band h
  obtain ⟨h2, h3⟩ := band h
  exact ⟨h1, (fnAt_meth h2).at_, (fnAt_meth h2).fn, h3⟩
/-- no plain value is an instance of C; C goes first against them -/
def plainB (K : PySem.W.Frag) (C : Addr) : Bool := kindsL.all fun k => decide (PySem.W.kitOne K (.type k) (.ref C) = some false) && PySem.W.notFirst K C (.type k)
theorem plainB_ok {K : PySem.W.Frag} {C : Addr} (h : plainB K C = true) {k : String} (hk : k ∈ kindsL) : PySem.W.kitOne K (.type k) (.ref C) = some false ∧ PySem.W.notFirst K C (.type k) = true := by
  obtain ⟨h1, h2⟩ := band (List.all_eq_true.mp h k hk)
  exact ⟨of_decide_eq_true h1, h2⟩
def neB (K : PySem.W.Frag) (C : Addr) : Bool := eqB (PySem.W.findIn K (.ref C) "__ne__") (some (some (.builtin "object.__ne__")))
theorem neB_ok {K : PySem.W.Frag} {C : Addr} (h : neB K C = true) : PySem.W.findIn K (.ref C) "__ne__" = some (some (.builtin "object.__ne__")) := of_decide_eq_true h
/-- is the class at C below the one at C' -/
def kitB2 (K : PySem.W.Frag) (C C' : Addr) (b : Bool) : Bool := decide (PySem.W.kitOne K (.ref C) (.ref C') = some b)
def exmB (K : PySem.W.Frag) (C : Addr) (c : Value) (b : Bool) : Bool := decide (PySem.W.exmOne K (.ref C) c = some b)
/-! ### the hook -/
abbrev ChkL := List (PySem.W.Frag → Bool)
def obsX (ck : ChkL) (fn : List He.DefD) (K : PySem.W.Frag) : He.AlD := ((ck.all fun f => f K) && fn.all fun d => d.ok K, fn.map fun d => He.fnW K d.at_)
def SaysX (ck : ChkL) (fn : List He.DefD) (K : PySem.W.Frag) : Prop := obsX ck fn K = He.valD fn
def obsXG (n : Nat) (ck : ChkL) (fn : List He.DefD) (g : Addr → Option Obj) : He.AlD := obsX ck fn (He.frG g (PySem.cStatics :: He.asD g n))
def hookX (n : Nat) (ck : ChkL) (fn : List He.DefD) : PySem.W.Hook where
  α := He.AlD
  obs := fun s => obsXG n ck fn s.heap.get?
  val := fun _ => He.valD fn
  says := fun _ h => ∃ K : PySem.W.Frag, K.In h ∧ SaysX ck fn K
  of := fun _ _ e => ⟨_, He.frG_in, e⟩
  keeps := fun _ _ _ ⟨K, hK, c⟩ k => ⟨K, PySem.W.Frag.In.keeps hK k, c⟩
theorem obsXG_eq {n : Nat} {ck : ChkL} {fn : List He.DefD} {g : Addr → Option Obj} {s : Shared} (h : ∀ a, g a = s.heap.get? a) : obsXG n ck fn g = (hookX n ck fn).obs s := by
  obtain rfl : g = s.heap.get? := funext h
  rfl
section
variable {ck : ChkL} {fn : List He.DefD} {K : PySem.W.Frag}
theorem SaysX.chk (c : SaysX ck fn K) (i : Nat) {f : PySem.W.Frag → Bool} (h : ck[i]? = some f := by rfl) : f K = true := by
  have c1 := (band (show ((ck.all fun f => f K) && fn.all fun d => d.ok K) = true from congrArg (fun z : He.AlD => z.1) c)).1
  exact List.all_eq_true.mp c1 f (List.mem_of_getElem? h)
theorem SaysX.def_ (c : SaysX ck fn K) (i : Nat) {d : He.DefD} (h : fn[i]? = some d := by rfl) : ∃ fd, FunD K d.name d.qual d.params d.body d.scope (d.dvs K) (d.kws K) (He.fAd K d.at_) fd := by
  have c2 := (band (show ((ck.all fun f => f K) && fn.all fun d => d.ok K) = true from congrArg (fun z : He.AlD => z.1) c)).2
  have e : fn.map (fun d => He.fnW K d.at_) = fn.map He.DefD.val := congrArg (fun z : He.AlD => z.2) c
  have e2 : (fn.map fun d => He.fnW K d.at_)[i]? = (fn.map He.DefD.val)[i]? := congrArg (fun l => l[i]?) e
  rw [List.getElem?_map, List.getElem?_map, h] at e2
  exact He.DefD.funD (Option.some.inj e2) (List.all_eq_true.mp c2 d (List.mem_of_getElem? h))
end
end Dx
namespace Dx
open PySem L2
/-! ### [.. for .. in .. for .. in ..] -/
theorem wipe_twice (vs : List Nat) (σ : L2.St) : L2.wipe (L2.wipe σ vs) vs = L2.wipe σ vs := by
  have go : ∀ (ws : List Nat) (σ : L2.St), (∀ i ∈ ws, i ∈ vs) → L2.wipe (L2.wipe σ ws) vs = L2.wipe σ vs := by
    intro ws
    induction ws with
    | nil => intro σ _; rfl
    | cons i r ih =>
      intro σ h
      show L2.wipe ((L2.wipe σ r).set i none) vs = _
      rw [wipe_set (h i List.mem_cons_self)]
      exact ih σ fun j hj => h j (List.mem_cons_of_mem _ hj)
  exact go vs σ fun _ h => h
/-- one loop that lays its elements at p -/
theorem lc_loop {K : PySem.W.Frag} {J : It} {p : Addr} {g : DG} {tt : TDT} {te : TD} {vs : List Nat} {ρ : DEnv} {σ : L2.St} {gd : DH → Prop} {Fin : List D → DH → Prop} {R : Hp → Prop} {ds acc : List D} {H F : Hp} {O : DH}
    (it : ItOk K F gd J ds) (ok : OkS K H F O) (env : EnvOk K F σ ρ) (ha : O p = some (.lst acc)) (q : lcGo p g tt te (dwipe ρ vs) ENo gd Fin ds acc O) (hfin : ∀ F2 O2 acc2 H2, Same F F2 → OkS K H2 F2 O2 → O2 p = some (.lst acc2) → Fin acc2 O2 → R H2) :
    ∃ W : Nat → Nat → Hp → Prop, (∃ m, W 0 m H) ∧ ∀ i m H, W i m H → (J.stop i H ∧ R H) ∨ (J.go i H ∧ ∃ Nx : Hp → Prop, (∀ H', Nx H' → ∃ m', m' < m ∧ W (i + 1) m' H') ∧ ∀ x H', J.yld i H x H' → upG K vs g x (L2.wipe σ vs) H' fun σ2 H2 => L2.wipe σ2 vs = L2.wipe σ vs ∧ upT K WNo tt σ2 H2 fun b H3 =>
      if b = true then up K WNo te σ2 H3 fun y H4 => ∃ acc, H4 p = some (.lst acc) ∧ acc.length < sizeLine ∧ Nx (upd H4 p (.lst (acc ++ [y]))) else Nx H3) := by
  refine ⟨fun i m H1 => ∃ F1 O1 acc, Same F F1 ∧ OkS K H1 F1 O1 ∧ m = ds.length - i ∧ i ≤ ds.length ∧ O1 p = some (.lst acc) ∧ lcGo p g tt te (dwipe ρ vs) ENo gd Fin (ds.drop i) acc O1, ⟨_, F, O, acc, Same.refl _, ok, rfl, Nat.zero_le _, ha, q⟩, fun i m H1 hw => ?_⟩
  obtain ⟨F1, O1, acc, e1, ok1, hm, hi, ha, q1⟩ := hw
  cases hd : ds[i]? with
  | none =>
    have hl := List.getElem?_eq_none_iff.mp hd
    rw [List.drop_eq_nil_of_le hl] at q1
    exact .inl ⟨(it H1 F1 O1 e1 ok1 q1.1 i).2 hl, hfin _ _ _ _ e1 ok1 ha q1.2⟩
  | some d =>
    obtain ⟨hlt, hget⟩ := List.getElem?_eq_some_iff.mp hd
    rw [List.drop_eq_getElem_cons hlt, hget] at q1
    obtain ⟨g1, g2⟩ := (it H1 F1 O1 e1 ok1 q1.1 i).1 d hd
    have q1 := q1.2
    refine .inr ⟨g1, fun H2 => ∃ F2 O2 acc2, Same F F2 ∧ OkS K H2 F2 O2 ∧ O2 p = some (.lst acc2) ∧ lcGo p g tt te (dwipe ρ vs) ENo gd Fin (ds.drop (i + 1)) acc2 O2, fun H2 hw2 => ?_, fun xv H2 hy => ?_⟩
    · obtain ⟨F2, O2, acc2, a1, a2, a3, a4⟩ := hw2
      exact ⟨ds.length - (i + 1), by omega, F2, O2, acc2, a1, a2, rfl, hlt, a3, a4⟩
    · have turn : ∀ F2, Same F1 F2 → OkS K H2 F2 O1 → Rep K F2 d xv → upG K vs g xv (L2.wipe σ vs) H2 fun σ2 H2 => L2.wipe σ2 vs = L2.wipe σ vs ∧ upT K WNo tt σ2 H2 fun b H3 =>
          if b = true then up K WNo te σ2 H3 fun y H4 => ∃ acc, H4 p = some (.lst acc) ∧ acc.length < sizeLine ∧ (fun H2 => ∃ F2 O2 acc2, Same F F2 ∧ OkS K H2 F2 O2 ∧ O2 p = some (.lst acc2) ∧ lcGo p g tt te (dwipe ρ vs) ENo gd Fin (ds.drop (i + 1)) acc2 O2) (upd H4 p (.lst (acc ++ [y])))
          else (fun H2 => ∃ F2 O2 acc2, Same F F2 ∧ OkS K H2 F2 O2 ∧ O2 p = some (.lst acc2) ∧ lcGo p g tt te (dwipe ρ vs) ENo gd Fin (ds.drop (i + 1)) acc2 O2) H3 := by
        intro F2 e2 ok2 rd
        refine ⟨F2, dwipe ρ vs, d, _, ok2.ex, (env.mono (e1.trans e2)).wipe vs, rd, q1, fun σ2 ρ2 env2 hw2 q2 => ⟨hw2.trans (wipe_twice vs σ), ?_⟩⟩
        refine ⟨F2, ρ2, O1, _, _, ok2, env2, q2, fun b H3 F3 O3 e3 ok3 q3 => ?_, fun _ _ _ _ _ _ _ _ _ z => z⟩
        cases b with
        | false => exact iteF ⟨F3, O3, acc, (e1.trans e2).trans e3, ok3, q3.1, q3.2⟩
        | true =>
          refine iteT ⟨F3, ρ2, O3, _, _, ok3, env2.mono e3, q3, fun y H4 F4 dy O4 e4 r4 ok4 q4 => ?_, fun _ _ _ _ _ _ _ _ _ z => z⟩
          obtain ⟨h4, hl4, q4⟩ := q4
          obtain ⟨xs, hx1, hx2⟩ := ok4.lst h4
          exact ⟨xs, hx1, by rw [← hx2.length]; exact hl4, F4, _, acc ++ [dy], ((e1.trans e2).trans e3).trans e4, ok4.put (m := .lst (acc ++ [dy])) h4 ⟨_, upd_same, hx2.append (.cons r4 .nil)⟩, updO_same, q4⟩
      rcases g2 xv H2 hy with ⟨rfl, rd⟩ | ⟨p2, o2, hp2, rfl, rd⟩
      · exact turn F1 (Same.refl _) ok1 rd
      · obtain ⟨ok2, e2⟩ := ok1.lay hp2 o2
        exact turn _ e2 ok2 rd
/-- the outer loop -/
def lcGo2 (a : Addr) (g : DG) (tt : TDT) (wi1 : TDI) (g1 : DG) (tt1 : TDT) (te : TD) (vs1 : List Nat) (ρ : DEnv) (gd : DH → Prop) (Q : List D → DH → Prop) : List D → List D → DH → Prop
  | [], acc, O => gd O ∧ Q acc O
  | d :: ds, acc, O => gd O ∧ g d ρ fun ρ1 => tt ρ1 O (fun k O1 => match k with
    | true => wi1 ρ1 O1 (fun ds1 gd1 O2 => O2 a = some (.lst acc) ∧ lcGo a g1 tt1 te (dwipe ρ1 vs1) ENo gd1 (fun acc' O3 => lcGo2 a g tt wi1 g1 tt1 te vs1 ρ gd Q ds acc' O3) ds1 acc O2) ENo
    | false => O1 a = some (.lst acc) ∧ lcGo2 a g tt wi1 g1 tt1 te vs1 ρ gd Q ds acc O1) ENo
def dLc2 (wi : TDI) (g : DG) (tt : TDT) (wi1 : TDI) (g1 : DG) (tt1 : TDT) (te : TD) (vs vs1 : List Nat) : TD := fun ρ O Q E => wi ρ O (fun ds gd O1 => ∀ a, O1 a = none → lcGo2 a g tt wi1 g1 tt1 te vs1 (dwipe ρ vs) gd (fun acc O2 => O2 a = some (.lst acc) ∧ ∃ O3, Dx.Sub O3 O2 ∧ O3 a = none ∧ Q (.lst acc) O3) ds [] (updO O1 a (.lst []))) E
theorem up_lc2 {K : PySem.W.Frag} {W : WX} {wi wi1 : TDI} {g g1 : DG} {tt tt1 : TDT} {te : TD} {vs vs1 : List Nat} : ∀ σ H Q, up K W (dLc2 wi g tt wi1 g1 tt1 te vs vs1) σ H Q →
    tLc2 (upI K W wi) (upG K vs g) (upT K WNo tt) (upI K WNo wi1) (upG K vs1 g1) (upT K WNo tt1) (up K WNo te) vs vs1 σ H Q := fun σ H Q u => by
  obtain ⟨F, ρ, O, Qd, Ed, ok, env, td, k, xr⟩ := u
  refine ⟨F, ρ, O, _, Ed, ok, env, td, fun J H' F' ds gd O' e ok' it q => ?_, xr⟩
  intro p hp
  have q0 := q p (ok'.freeO hp)
  have okp : OkS K (upd H' p (.lst [])) F' (updO O' p (.lst [])) := ok'.layM (m := .lst []) hp ⟨[], upd_same, .nil⟩
  generalize hFin : (fun (acc : List D) (O2 : DH) => O2 p = some (.lst acc) ∧ ∃ O3, Dx.Sub O3 O2 ∧ O3 p = none ∧ Qd (.lst acc) O3) = Fin at q0
  refine ⟨fun i m H1 => ∃ F1 O1 acc, Same F' F1 ∧ OkS K H1 F1 O1 ∧ m = ds.length - i ∧ i ≤ ds.length ∧ O1 p = some (.lst acc) ∧ lcGo2 p g tt wi1 g1 tt1 te vs1 (dwipe ρ vs) gd Fin (ds.drop i) acc O1, ⟨_, F', _, [], Same.refl _, okp, rfl, Nat.zero_le _, updO_same, q0⟩, fun i m H1 hw => ?_⟩
  obtain ⟨F1, O1, acc, e1, ok1, hm, hi, ha, q1⟩ := hw
  cases hd : ds[i]? with
  | none =>
    have hl := List.getElem?_eq_none_iff.mp hd
    rw [List.drop_eq_nil_of_le hl] at q1
    obtain ⟨qa, qb⟩ := q1
    subst hFin
    obtain ⟨h, O3, s, n, qb⟩ := qb
    obtain ⟨F2, ok2, e2, r2⟩ := ok1.frzL h s n
    exact .inl ⟨(it H1 F1 O1 e1 ok1 qa i).2 hl, k _ _ F2 _ O3 ((e.trans e1).trans e2) r2 ok2 qb⟩
  | some d =>
    obtain ⟨hlt, hget⟩ := List.getElem?_eq_some_iff.mp hd
    rw [List.drop_eq_getElem_cons hlt, hget] at q1
    obtain ⟨gg1, gg2⟩ := (it H1 F1 O1 e1 ok1 q1.1 i).1 d hd
    have q1 := q1.2
    let Nx : Hp → Prop := fun H2 => ∃ F2 O2 acc2, Same F' F2 ∧ OkS K H2 F2 O2 ∧ O2 p = some (.lst acc2) ∧ lcGo2 p g tt wi1 g1 tt1 te vs1 (dwipe ρ vs) gd Fin (ds.drop (i + 1)) acc2 O2
    refine .inr ⟨gg1, Nx, fun H2 hw2 => ?_, fun xv H2 hy => ?_⟩
    · obtain ⟨F2, O2, acc2, a1, a2, a3, a4⟩ := hw2
      exact ⟨ds.length - (i + 1), by omega, F2, O2, acc2, a1, a2, rfl, hlt, a3, a4⟩
    · have turn : ∀ F2, Same F1 F2 → OkS K H2 F2 O1 → Rep K F2 d xv → upG K vs g xv (L2.wipe σ vs) H2 fun σ2 H2 => L2.wipe σ2 vs = L2.wipe σ vs ∧ upT K WNo tt σ2 H2 fun b H3 =>
          if b = true then upI K WNo wi1 σ2 H3 fun J1 H4 => ∃ W1 : Nat → Nat → Hp → Prop, (∃ m, W1 0 m H4) ∧ ∀ j k H, W1 j k H →
            (J1.stop j H ∧ Nx H) ∨ (J1.go j H ∧ ∃ Nx1 : Hp → Prop, (∀ H', Nx1 H' → ∃ k', k' < k ∧ W1 (j + 1) k' H') ∧ ∀ x H', J1.yld j H x H' → upG K vs1 g1 x (L2.wipe σ2 vs1) H' fun σ3 H5 => L2.wipe σ3 vs1 = L2.wipe σ2 vs1 ∧ upT K WNo tt1 σ3 H5 fun b H6 =>
              if b = true then up K WNo te σ3 H6 fun y H7 => ∃ acc, H7 p = some (.lst acc) ∧ acc.length < sizeLine ∧ Nx1 (upd H7 p (.lst (acc ++ [y]))) else Nx1 H6)
          else Nx H3 := by
        intro F2 e2 ok2 rd
        refine ⟨F2, dwipe ρ vs, d, _, ok2.ex, (env.mono ((e.trans e1).trans e2)).wipe vs, rd, q1, fun σ2 ρ2 env2 hw2 q2 => ⟨hw2.trans (wipe_twice vs σ), ?_⟩⟩
        refine ⟨F2, ρ2, O1, _, _, ok2, env2, q2, fun b H3 F3 O3 e3 ok3 q3 => ?_, fun _ _ _ _ _ _ _ _ _ z => z⟩
        cases b with
        | false => exact iteF ⟨F3, O3, acc, (e1.trans e2).trans e3, ok3, q3.1, q3.2⟩
        | true =>
          refine iteT ⟨F3, ρ2, O3, _, _, ok3, env2.mono e3, q3, fun J1 H4 F4 ds1 gd1 O4 e4 ok4 it1 q4 => ?_, fun _ _ _ _ _ _ _ _ _ z => z⟩
          exact lc_loop (R := Nx) it1 ok4 ((env2.mono e3).mono e4) q4.1 q4.2 fun F5 O5 acc5 H5 e5 ok5 ha5 q5 => ⟨F5, O5, acc5, (((e1.trans e2).trans e3).trans e4).trans e5, ok5, ha5, q5⟩
      rcases gg2 xv H2 hy with ⟨rfl, rd⟩ | ⟨p2, o2, hp2, rfl, rd⟩
      · exact turn F1 (Same.refl _) ok1 rd
      · obtain ⟨ok2, e2⟩ := ok1.lay hp2 o2
        exact turn _ e2 ok2 rd
section
variable {X : Cx} {W : WX} {elt tg iter tg1 iter1 : Expr} {ifs ifs1 : List Expr} {scope : Scope} {own : List (Str × Nat)} {vs1 : List Nat} {pos : Pos} {wi wi1 : TDI} {g g1 : DG} {tt tt1 : TDT} {te : TD}
theorem de_lc2 (hc : X.calm = true) (hN : X.N.Nodup) (hi : DI X W tg iter wi) (ok : BlkOk X.N X.env.scope scope own) (hv : ∀ i ∈ vs1, i ∈ own.map (·.2))
    (hg : ∀ (s : Shared) (H : Hp) (C : Addr) (cl : List (Str × Addr)) (fp : List Addr), GP (X.blk s H scope (compEnvC scope cl C X.env) fp) (own.map (·.2)) tg g) (ht : ∀ (s : Shared) (H : Hp) (C : Addr) (cl : List (Str × Addr)) (fp : List Addr), DTs (X.blk s H scope (compEnvC scope cl C X.env) fp) WNo ifs tt)
    (hi1 : ∀ (s : Shared) (H : Hp) (C : Addr) (cl : List (Str × Addr)) (fp : List Addr), DI (X.blk s H scope (compEnvC scope cl C X.env) fp) WNo tg1 iter1 wi1)
    (hg1 : ∀ (s : Shared) (H : Hp) (C : Addr) (cl : List (Str × Addr)) (fp : List Addr), GP (X.blk s H scope (compEnvC scope cl C X.env) fp) vs1 tg1 g1) (ht1 : ∀ (s : Shared) (H : Hp) (C : Addr) (cl : List (Str × Addr)) (fp : List Addr), DTs (X.blk s H scope (compEnvC scope cl C X.env) fp) WNo ifs1 tt1)
    (he : ∀ (s : Shared) (H : Hp) (C : Addr) (cl : List (Str × Addr)) (fp : List Addr), DE (X.blk s H scope (compEnvC scope cl C X.env) fp) WNo elt te) (hs : ∀ x, foldedSetIterable iter X.env x = pure x := by intro _; rfl) (hs1 : ∀ env x, foldedSetIterable iter1 env x = pure x := by intro _ _; rfl) :
    DE X W (.ListComp elt [⟨tg, iter, ifs, 0⟩, ⟨tg1, iter1, ifs1, 0⟩] scope pos) (dLc2 wi g tt wi1 g1 tt1 te (own.map (·.2)) vs1) := pe_imp (pe_lc2 hc hN hi ok hv hg ht hi1 hg1 ht1 he hs hs1) up_lc2
end
end Dx
namespace Dx
open PySem L2
/-- an own error class x over ValueError with the field f -/
structure Err1 (P : Program) (w : World) (K : PySem.W.Frag) (mg : Str → Option Value) (base : Heap) (x f : Str) : Prop where
  m : mg x = some (.ref (He.ga K x))
  T : OexC K (He.ga K x)
  na : NoAttr K (He.ga K x) f
  ex : ∃ (fI : Addr) (fd : FuncData) (ps : List Str), PySem.W.findIn K (.ref (He.ga K x)) "__init__" = some (some (.ref fI)) ∧ PySem.W.typeIn K (.ref fI) = some (.type "function") ∧ FnOk P w K mg base CX0 1 fI fd ps (spIni1 K f) ∧ Binds K fd ps []
structure Err2 (P : Program) (w : World) (K : PySem.W.Frag) (mg : Str → Option Value) (base : Heap) (x f g : Str) : Prop where
  m : mg x = some (.ref (He.ga K x))
  T : OexC K (He.ga K x)
  na : NoAttr K (He.ga K x) f
  na2 : NoAttr K (He.ga K x) g
  ex : ∃ (fI : Addr) (fd : FuncData) (ps : List Str), PySem.W.findIn K (.ref (He.ga K x)) "__init__" = some (some (.ref fI)) ∧ PySem.W.typeIn K (.ref fI) = some (.type "function") ∧ FnOk P w K mg base CX0 1 fI fd ps (spIni2 K f g) ∧ Binds K fd ps []
section
variable {X : Cx} {W : WX} {e e2 : Expr} {ta tb : TD} {f g x : Str} {p pos pos' : Pos} {k : Nat}
theorem ds_raiseE1 (r : Err1 X.prog X.w X.K X.mg X.base x f) (hc : X.calm = true) (tk : Takes X W) (hr : Room 2 X.A) (hg : Gl X x) (ha : DE X W e ta)
    (hdb : (x == ("__debug__" : Str)) = false := by decide) (he : starEach [e] X.env = (false, eval e X.env) :: starEach [] X.env := by rfl) (hpl : (backTo pos (starEach [] X.env)).any (·.1) = false := by rfl) :
    DS X W (.Raise (some (.Call (.Name x p) [e] [] pos)) none pos') (dRaise1 (He.ga X.K x) f ta) := by
  obtain ⟨fI, fd, ps, iC, tI, F1, hb⟩ := r.ex
  exact ds_raise1 hc tk r.T iC tI r.na F1 hr hb (fun _ _ _ _ _ _ _ h => h.elim) hg r.m ha hdb he hpl
theorem ds_raiseE2 (r : Err2 X.prog X.w X.K X.mg X.base x f g) (hc : X.calm = true) (tk : Takes X W) (hr : Room 2 X.A) (hg : Gl X x) (ha : DE X W e ta) (hb2 : DE X W e2 tb)
    (hdb : (x == ("__debug__" : Str)) = false := by decide) (he : starEach [e, e2] X.env = (false, eval e X.env) :: starEach [e2] X.env := by rfl) (he2 : starEach [e2] X.env = (false, eval e2 X.env) :: starEach [] X.env := by rfl) (hpl : (backTo pos (starEach [e2] X.env)).any (·.1) = false := by rfl) :
    DS X W (.Raise (some (.Call (.Name x p) [e, e2] [] pos)) none pos') (dRaise2 (He.ga X.K x) f g ta tb) := by
  obtain ⟨fI, fd, ps, iC, tI, F1, hb⟩ := r.ex
  exact ds_raise2 hc tk r.T iC tI r.na r.na2 F1 hr hb (fun _ _ _ _ _ _ _ h => h.elim) hg r.m ha hb2 hdb he he2 hpl
/-- list(x), a list that will change -/
def dListM (tr : TDA) : TD := fun ρ O Q E => tr ρ O (fun ds O1 => match ds with
  | [x] => (match items O1 x with
    | some ds => ∀ a, O1 a = none → Q (.ref a) (updO O1 a (.lst ds))
    | none => False)
  | _ => False) E
theorem de_listM {es : List Expr} {tr : TDA} (hg : Gl X x) (hm : X.mg x = none) (hv : bootBuiltins x = some (.type "list")) (ha : DA X W (e :: es) tr) (hn : x ≠ "__name__" := by decide) (hdb : (x == ("__debug__" : Str)) = false := by decide)
    (he : starEach (e :: es) X.env = (false, eval e X.env) :: starEach es X.env := by rfl) (hpl : (backTo pos (starEach es X.env)).any (·.1) = false := by rfl) : DE X W (.Call (.Name x p) (e :: es) [] pos) (dListM tr) :=
  pe_imp (pe_callTy call_list_of hg hm hv ha hn hdb he hpl) fun σ H Q u => by
    obtain ⟨F, ρ, O, Qd, Ed, ok, env, td, k, xr⟩ := u
    refine ⟨F, ρ, O, _, Ed, ok, env, td, fun vs H1 F1 ds O1 e1 r1 ok1 q1 => ?_, xr⟩
    split at q1
    · obtain ⟨v, rfl, r⟩ := r1.one
      split at q1
      · next es he =>
        obtain ⟨a, xs, rfl, hs, ra⟩ := items_rep ok1 r he
        refine ⟨a, xs, rfl, hs, fun l hl => ?_⟩
        exact k _ _ F1 _ _ e1 (.ref l) (ok1.layM (m := .lst es) hl ⟨xs, upd_same, ra⟩) (q1 l (ok1.freeO hl))
      · exact q1.elim
    · exact q1.elim
end
/-- a comprehension within a comprehension -/
def envS (sc : Scope) : Env := { scope := sc, locals := 0, globals := 0, cells := [] }
theorem blkOk_in {X : Cx} {s : Shared} {H : Hp} {sc sc0 sc2 : Scope} {cl : List (Str × Addr)} {C : Addr} {env : Env} {fp : List Addr} {N : List Str} {own : List (Str × Nat)} (hs : env.scope = sc0) (h : blkC N (PySem.relabel sc (envS sc0)) sc2 own = true) : BlkOk N ((X.blk s H sc (compEnvC sc cl C env) fp).env.scope) sc2 own := by
  subst hs
  exact blkOk_by h
theorem dt_chain {X : Cx} {W : WX} {a b c : Expr} {ta tb tc : TD} {pos : Pos} {op op' : CmpOp} {r r' : R2} {f f' : FD2} (ho : OpR X (compareOp op) r) (ho' : OpR X (compareOp op') r') (h : Op2 X.K r f) (h' : Op2 X.K r' f') (ha : DE X W a ta) (hb : DE X W b tb) (hc : DE X W c tc)
    (hm : lastMarks [op, op'] [b, c] = false := by with_unfolding_all rfl) : DT X W (.Compare a [op, op'] [b, c] pos) (dTst (dChain f f' ta tb tc)) :=
  pt_imp (pt_chain ho ho' ha hb hc hm) fun σ H Q u => by
    obtain ⟨F, ρ, O, Qd, Ed, ok, env, td, k, xr⟩ := u
    refine up_chain h h' σ H _ ⟨F, ρ, O, _, Ed, ok, env, td, fun v H1 F1 d O1 e1 r1 ok1 q1 => ?_, xr⟩
    split at q1
    · cases r1
      exact ⟨_, rfl, k _ H1 F1 O1 e1 ok1 q1⟩
    · exact q1.elim
end Dx
namespace Dx
open PySem L2
local macro_rules | `(tactic| walk_at "dx") => `(tactic| simp only [dVar, dC, dBin, dUn, dTst, dTru, dAnd, dOr, dNot, dAndV, dOrV, dNotV, dIf, dChain, dNil, dCons, dTup, dLst, dLstM, dDic0, dDic1, dNoP, dPart, dSl, dCB, dIsi, dIsiT, dNext, dSeq, dRet, dRetF, dRetN, dDrop, dIfS, dBreak, dCont, dAsg, gN, gTu, gCn, gNl, dPar, dSetIx, dApp, dISeq, dIRng1, dIRng2, dFor, dCall, dLc, dLcM, dYes, dwipe, ends,
  List.getElem?_cons_zero, List.getElem?_cons_succ, List.getElem?_nil, List.set_cons_zero, List.set_cons_succ, List.length_cons, List.length_nil, Nat.zero_add, Nat.reduceAdd])
local macro_rules | `(tactic| walk_at "df") => `(tactic| simp only [fAdd, fSub, fMul, fMod, fFd, fPow, fNeg, fLt, fLe, fGt, fGe, fI, fI0, fU, fIsN, fNotN, fIx, fSl, fLen, fInt, fAbs, fMax2, fMin2, fStr, fTuple, fList, fAll, fAny, fSum, fEq_ii, fNe_ii, fEq_ss, fNe_ss, fEq_bb, fNe_bb, items, itemsL, trkD, ixD, atI_0, atI_1, atI_2, ixN_0, ixN_1, ixN_2, Option.bind_some, Option.map_some, lenD, keyD, noneD, kindD, truth, shown?, D.py, D.pys, true_and, and_true])
theorem kindD_non {O : DH} : kindD O .non = some "NoneType" := rfl
theorem kindD_bl {O : DH} {b : Bool} : kindD O (.bl b) = some "bool" := rfl
theorem kindD_int {O : DH} {i : Int} : kindD O (.int i) = some "int" := rfl
theorem kindD_str {O : DH} {z : Str} : kindD O (.str z) = some "str" := rfl
theorem kindD_lst {O : DH} {ds : List D} : kindD O (.lst ds) = some "list" := rfl
theorem kindD_tup {O : DH} {ds : List D} : kindD O (.tup ds) = some "tuple" := rfl
theorem kindD_dic {O : DH} {ks : List (Key × D)} : kindD O (.dic ks) = some "dict" := rfl
theorem items_lst {O : DH} {ds : List D} : items O (.lst ds) = some ds := rfl
theorem items_tup {O : DH} {ds : List D} : items O (.tup ds) = some ds := rfl
theorem items_wl {O : DH} {ds : List D} : items O (.wl ds) = some ds := rfl
theorem itemsL_lst {O : DH} {ds : List D} : itemsL O (.lst ds) = some ds := rfl
theorem itemsL_wl {O : DH} {ds : List D} : itemsL O (.wl ds) = some ds := rfl
theorem trkD_lst {O : DH} {ds : List D} : trkD O (.lst ds) = some ds := rfl
theorem items_ref {O : DH} {ds : List D} {a : Addr} (h : O a = some (.lst ds)) : items O (.ref a) = some ds := by unfold items; simp only [h]
theorem itemsL_ref {O : DH} {ds : List D} {a : Addr} (h : O a = some (.lst ds)) : itemsL O (.ref a) = some ds := by unfold itemsL; simp only [h]
theorem trkD_ref {O : DH} {ds : List D} {a : Addr} (h : O a = some (.lst ds)) : trkD O (.ref a) = some ds := by unfold trkD; simp only [h]
theorem kindD_ref {O : DH} {ds : List D} {a : Addr} (h : O a = some (.lst ds)) : kindD O (.ref a) = some "list" := by unfold kindD; simp only [h]
theorem lenD_lst {O : DH} {ds : List D} : lenD O (.lst ds) = some ds.length := rfl
theorem lenD_tup {O : DH} {ds : List D} : lenD O (.tup ds) = some ds.length := rfl
theorem lenD_wl {O : DH} {ds : List D} : lenD O (.wl ds) = some ds.length := rfl
theorem lenD_dic {O : DH} {ks : List (Key × D)} : lenD O (.dic ks) = some ks.length := rfl
theorem lenD_ref {O : DH} {ds : List D} {a : Addr} (h : O a = some (.lst ds)) : lenD O (.ref a) = some ds.length := by show (items O (.ref a)).map List.length = _; rw [items_ref h]; rfl
theorem lenD_str {O : DH} {z : Str} : lenD O (.str z) = if z.length ≤ sizeLine then some z.length else none := rfl
theorem truth_non {O : DH} : truth O .non = some false := rfl
theorem truth_bl {O : DH} {b : Bool} : truth O (.bl b) = some b := rfl
theorem truth_int {O : DH} {i : Int} : truth O (.int i) = some (i != 0) := rfl
theorem truth_str {O : DH} {z : Str} : truth O (.str z) = if z.length ≤ sizeLine then some ((z.length : Int) != 0) else none := rfl
theorem truth_dic {O : DH} {ks : List (Key × D)} : truth O (.dic ks) = some (!ks.isEmpty) := rfl
theorem truth_lst {O : DH} {ds : List D} : truth O (.lst ds) = some (!ds.isEmpty) := rfl
theorem truth_tup {O : DH} {ds : List D} : truth O (.tup ds) = some (!ds.isEmpty) := rfl
theorem truth_wl {O : DH} {ds : List D} : truth O (.wl ds) = some (!ds.isEmpty) := rfl
theorem truth_ref {O : DH} {ds : List D} {a : Addr} (h : O a = some (.lst ds)) : truth O (.ref a) = some (!ds.isEmpty) := by show (items O (.ref a)).map (fun ds => !ds.isEmpty) = _; rw [items_ref h]; rfl
theorem keyD_int : ∀ {i : Int}, keyD (.int i) = some (.inl i) := rfl
theorem keyD_str : ∀ {z : Str}, keyD (.str z) = some (.inr z) := rfl
theorem noneD_non  : noneD .non = true := rfl
theorem noneD_bl {b : Bool} : noneD (.bl b) = false := rfl
theorem noneD_int {i : Int} : noneD (.int i) = false := rfl
theorem noneD_str {z : Str} : noneD (.str z) = false := rfl
theorem noneD_lst {ds : List D} : noneD (.lst ds) = false := rfl
theorem noneD_tup {ds : List D} : noneD (.tup ds) = false := rfl
theorem noneD_dic {ks : List (Key × D)} : noneD (.dic ks) = false := rfl
theorem noneD_ref {a : Addr} : noneD (.ref a) = false := rfl
/-! ### what draws -/
def VesM (t : Int) (m : MO) : Prop := ∃ (cells : List Int) (turn rest : Int), m = .lst [.lst (cells.map .int), .int turn, .int rest] ∧ cells.length ≤ 100000 ∧ 0 ≤ turn ∧ turn ≤ t ∧ 0 ≤ rest
theorem VesM.mono {t t' : Int} {m : MO} (h : VesM t m) (e : t ≤ t') : VesM t' m := let ⟨c, u, r, h1, h2, h3, h4, h5⟩ := h; ⟨c, u, r, h1, h2, h3, Int.le_trans h4 e, h5⟩
def sd_draw : SpD := fun ds O Q E => match ds with
  | [.ref v, .int many] => ∃ t m, O v = some m ∧ VesM t m ∧ t < 1000000 ∧ 0 < many ∧ many < 1073741824 ∧ ∀ r m', 0 ≤ r → r < many → VesM (t + 1) m' → Q (.int r) (updO O v m')
  | _ => False
/-- the body of the laws' drawing def -/
def tDraw (M1 A1 B1 M2 B2 A2 B3 M3 : Int) : TDS :=
    (dSeq (dIfS (dTst (dBin fEq (dBin fIx (dVar 0) (dC (.int 0))) (dLst dNil)))
    (dRet (dC (.int 0)))
    dNext)
    (dSeq (dIfS (dTst (dBin fGt (dBin fIx (dVar 0) (dC (.int 2))) (dC (.int 0))))
    (dSeq (dAsg (dCB fInt (dCons (dBin fIx (dVar 0) (dC (.int 2))) dNil)) (gN 2))
    (dSeq (dSetIx (dBin fFd (dVar 2) (dVar 1)) (dVar 0) (dC (.int 2)))
    (dRet (dBin fMod (dCB fInt (dCons (dVar 2) dNil)) (dVar 1)))))
    dNext)
    (dSeq (dAsg (dBin fIx (dVar 0) (dC (.int 1))) (gN 3))
    (dSeq (dSetIx (dBin fAdd (dVar 3) (dC (.int 1))) (dVar 0) (dC (.int 1)))
    (dSeq (dAsg (dBin fIx (dBin fIx (dVar 0) (dC (.int 0))) (dBin fMod (dCB fInt (dCons (dVar 3) dNil)) (dCB fLen (dCons (dBin fIx (dVar 0) (dC (.int 0))) dNil)))) (gN 4))
    (dSeq (dIfS (dAnd (dTst (dBin fLt (dVar 3) (dCB fLen (dCons (dBin fIx (dVar 0) (dC (.int 0))) dNil)))) (dTst (dBin fGe (dCB fAbs (dCons (dVar 4) dNil)) (dBin fPow (dC (.int 10)) (dC (.int 18))))))
    (dSeq (dAsg (dBin fAdd (dBin fMul (dC (.int 2)) (dBin fSub (dCB fAbs (dCons (dVar 4) dNil)) (dBin fPow (dC (.int 10)) (dC (.int 18))))) (dCB fInt (dCons (dBin fLt (dVar 4) (dC (.int 0))) dNil))) (gN 2))
    (dSeq (dSetIx (dBin fFd (dVar 2) (dVar 1)) (dVar 0) (dC (.int 2)))
    (dRet (dBin fMod (dCB fInt (dCons (dVar 2) dNil)) (dVar 1)))))
    dNext)
    (dSeq (dAsg (dBin fMod (dCB fInt (dCons (dBin fPow (dBin fAdd (dBin fAdd (dBin fMod (dCB fInt (dCons (dVar 4) dNil)) (dC (.int M1))) (dBin fMul (dC (.int A1)) (dVar 3))) (dC (.int B1))) (dC (.int 5))) dNil)) (dC (.int M2))) (gN 5))
    (dSeq (dAsg (dBin fMod (dCB fInt (dCons (dBin fPow (dBin fAdd (dBin fAdd (dBin fMul (dVar 5) (dBin fAdd (dBin fMul (dC (.int 2)) (dVar 3)) (dC (.int B2)))) (dBin fMul (dBin fMul (dC (.int A2)) (dVar 3)) (dVar 3))) (dC (.int B3))) (dC (.int 3))) dNil)) (dC (.int M3))) (gN 5))
    (dRet (dBin fMod (dCB fInt (dCons (dBin fFd (dVar 5) (dC (.int 64))) dNil)) (dVar 1)))))))))))
theorem fm_lt {i j : Int} (h : 0 < j) : 0 ≤ i.fmod j ∧ i.fmod j < j := ⟨Int.fmod_nonneg_of_pos _ h, Int.fmod_lt_of_pos _ h⟩
theorem fd_nn {i j : Int} (hi : 0 ≤ i) (h : 0 < j) : 0 ≤ i.fdiv j := by
  rw [Int.fdiv_eq_ediv_of_nonneg _ (Int.le_of_lt h)]
  exact Int.ediv_nonneg hi (Int.le_of_lt h)
theorem cm_small {i j : Int} (h1 : -(2 ^ 64) < i) (h2 : i < 2 ^ 64) : CM i j := .inl (.inl ⟨h1, h2⟩)
theorem sq_bound {a t : Int} (h0 : 0 ≤ a) (h1 : a ≤ 1000000) (h2 : 0 ≤ t) (h3 : t ≤ 1000000) : 0 ≤ a * t ∧ a * t ≤ 1000000000000 := by
  refine ⟨Int.mul_nonneg h0 h2, ?_⟩
  have h := Int.mul_le_mul h1 h3 h2 (by decide)
  exact Int.le_trans h (by decide)
theorem rd_draw (M1 A1 B1 M2 B2 A2 B3 M3 : Int) (hM1 : 0 < M1 ∧ M1 < 4294967296) (hA1 : 0 ≤ A1 ∧ A1 < 1000000) (hB1 : 0 ≤ B1 ∧ B1 < 1000000) (hM2 : 0 < M2 ∧ M2 < 4294967296) (hB2 : 0 ≤ B2 ∧ B2 < 1000000) (hA2 : 0 ≤ A2 ∧ A2 < 1000000) (hB3 : 0 ≤ B3 ∧ B3 < 1000000) (hM3 : 0 < M3 ∧ M3 < 4294967296) :
    ∀ ds O Q E, sd_draw ds O Q E → tDraw M1 A1 B1 M2 B2 A2 B3 M3 (ends Q E) (dstart 6 ds) O := by
  intro ds O Q E h
  unfold sd_draw at h
  split at h
  · rename_i v many
    obtain ⟨t, m, hv, ⟨cells, turn, rest, rfl, hc, ht0, ht1, hr⟩, ht, hm0, hm1, q⟩ := h
    show tDraw M1 A1 B1 M2 B2 A2 B3 M3 (ends Q E) [some (.ref v), some (.int many), none, none, none, none] O
    unfold tDraw
    walk_at "dx"
    simp only [fIx, ixD, items, hv, Option.bind_some, atI_0, atI_1, atI_2, fEq, shown?, D.py, D.pys, pys_ints, Option.map_some]
    refine ⟨by show 0 ≤ sizeLine; exact Nat.zero_le _, shaped_intsL cells, rfl, ?_⟩
    cases cells with
    | nil =>
      refine ⟨O, Sub.refl O, ?_⟩
      have := q 0 _ (Int.le_refl 0) hm0 (VesM.mono ⟨[], turn, rest, rfl, hc, ht0, Int.le_refl _, hr⟩ (by omega))
      rw [self_upd hv] at this
      exact this
    | cons c0 cs =>
      have e0 : PyData.eqv (.list ((c0 :: cs).map PyData.int)) (.list []) = false := rfl
      simp only [e0]
      generalize hcells : c0 :: cs = cells at *
      have hne : 0 < cells.length := by rw [← hcells]; exact Nat.succ_pos _
      clear hcells e0
      walk_at "df"
      have nz : many ≠ 0 := by omega
      have fdm : ∀ i : Int, CFd i many := fun i => .inl ⟨nz, by omega⟩
      cases hr0 : decide (0 < rest) with
      | true =>
        simp only [updO_same, List.length_cons, List.length_nil, ixN_0, ixN_1, ixN_2, Nat.reduceAdd, Nat.zero_add]
        refine ⟨fdm _, nz, _, Sub.refl _, q _ _ (fm_lt hm0).1 (fm_lt hm0).2 ⟨cells, turn, rest.fdiv many, rfl, hc, ht0, by omega, fd_nn hr hm0⟩⟩
      | false =>
        simp only [updO_same, updO_upd, List.length_cons, List.length_nil, ixN_0, ixN_1, ixN_2, List.set_cons_zero, List.set_cons_succ, atI_0, atI_1, atI_2, Option.bind_some, List.length_map, Nat.reduceAdd, Nat.zero_add]
        have el : Option.map List.length (some (List.map D.int cells)) = some cells.length := by simp
        have hln : (0 : Int) < (cells.length : Int) := by omega
        obtain ⟨b1, b2⟩ := fm_lt (i := turn) hln
        obtain ⟨k, hk⟩ := Int.eq_ofNat_of_zero_le b1
        have hk2 : k < cells.length := by omega
        have ec : atI (cells.map D.int) (turn.fmod (cells.length : Int)) = some (.int cells[k]) := by
          rw [hk]
          refine atI_nat ?_
          rw [List.getElem?_map, List.getElem?_eq_getElem hk2]
          rfl
        generalize cells[k] = cell at ec
        simp only [el, ec]
        have p10 : CPow 10 18 := ⟨by decide, by decide, by decide⟩
        have e10 : (10 : Int) ^ Int.toNat 18 = 1000000000000000000 := by decide
        have tail : M1 ≠ 0 ∧ CM A1 turn ∧ CPow (cell.fmod M1 + A1 * turn + B1) 5 ∧ M2 ≠ 0 ∧ CM 2 turn ∧ CM (((cell.fmod M1 + A1 * turn + B1) ^ Int.toNat 5).fmod M2) (2 * turn + B2) ∧ CM A2 turn ∧ CM (A2 * turn) turn ∧
            CPow (((cell.fmod M1 + A1 * turn + B1) ^ Int.toNat 5).fmod M2 * (2 * turn + B2) + A2 * turn * turn + B3) 3 ∧ M3 ≠ 0 ∧ CFd (((((cell.fmod M1 + A1 * turn + B1) ^ Int.toNat 5).fmod M2 * (2 * turn + B2) + A2 * turn * turn + B3) ^ Int.toNat 3).fmod M3) 64 ∧ many ≠ 0 ∧
            ∃ O2, Sub O2 (updO O v (MO.lst [D.lst (List.map D.int cells), D.int (turn + 1), D.int rest])) ∧
              Q (D.int (((((((cell.fmod M1 + A1 * turn + B1) ^ Int.toNat 5).fmod M2 * (2 * turn + B2) + A2 * turn * turn + B3) ^ Int.toNat 3).fmod M3).fdiv 64).fmod many)) O2 := by
          have htn : turn ≤ 1000000 := by omega
          have x1 := fm_lt (i := cell) hM1.1
          have x2 := sq_bound hA1.1 (by omega) ht0 htn
          have x3 := sq_bound hA2.1 (by omega) ht0 htn
          have x4 : 0 ≤ A2 * turn * turn ∧ A2 * turn * turn ≤ 1000000000000000000 := by
            refine ⟨Int.mul_nonneg x3.1 ht0, ?_⟩
            exact Int.le_trans (Int.mul_le_mul x3.2 htn ht0 (by decide)) (by decide)
          have y1 := fm_lt (i := (cell.fmod M1 + A1 * turn + B1) ^ Int.toNat 5) hM2.1
          generalize ((cell.fmod M1 + A1 * turn + B1) ^ Int.toNat 5).fmod M2 = mixed at y1 ⊢
          have y2 : 0 ≤ mixed * (2 * turn + B2) ∧ mixed * (2 * turn + B2) ≤ 4294967296 * 3000000 := by
            refine ⟨Int.mul_nonneg y1.1 (by omega), ?_⟩
            exact Int.mul_le_mul (by omega) (by omega) (by omega) (by decide)
          have y3 := fm_lt (i := (mixed * (2 * turn + B2) + A2 * turn * turn + B3) ^ Int.toNat 3) hM3.1
          refine ⟨by omega, cm_small (by omega) (by omega), ⟨by decide, by decide, by omega⟩, by omega, cm_small (by decide) (by decide), cm_small (by omega) (by omega), cm_small (by omega) (by omega), cm_small (by omega) (by omega), ⟨by decide, by decide, by omega⟩, by omega, .inl ⟨by decide, by decide⟩, nz, _, Sub.refl _, ?_⟩
          exact q _ _ (fm_lt hm0).1 (fm_lt hm0).2 ⟨cells, turn + 1, rest, rfl, hc, by omega, by omega, hr⟩
        refine ⟨by omega, ?_⟩
        cases hd1 : decide (turn < (cells.length : Int)) with
        | false => exact tail
        | true =>
          refine ⟨p10, ?_⟩
          simp only [e10]
          cases hd2 : decide ((1000000000000000000 : Int) ≤ if cell < 0 then -cell else cell) with
          | false => exact tail
          | true =>
            have h18 : (1000000000000000000 : Int) ≤ if cell < 0 then -cell else cell := of_decide_eq_true hd2
            refine ⟨p10, cm_small (by decide) (by decide), fdm _, nz, _, Sub.refl _, q _ _ (fm_lt hm0).1 (fm_lt hm0).2 ⟨cells, turn + 1, _, rfl, hc, by omega, by omega, fd_nn ?_ hm0⟩⟩
            have h19 : 0 ≤ (2 : Int) * ((if cell < 0 then -cell else cell) - 1000000000000000000) := by omega
            split <;> omega
  · exact h.elim
theorem all_in {α : Type} (p : α → Bool) {l : List α} (h : l.all p = true) {x : α} (hx : x ∈ l) : p x = true := List.all_eq_true.mp h x hx
theorem intsFrom_len {lo : Int} {n : Nat} : (intsFrom lo n).length = n := by unfold intsFrom; rw [List.length_map, List.length_range]
theorem intsFrom_get {lo : Int} {n k : Nat} {d : D} (h : (intsFrom lo n)[k]? = some d) : k < n ∧ d = .int (lo + k) := by
  unfold intsFrom at h
  rw [List.getElem?_map] at h
  by_cases hk : k < n
  · rw [List.getElem?_range hk] at h
    cases h
    exact ⟨hk, rfl⟩
  · rw [List.getElem?_eq_none (by rw [List.length_range]; omega)] at h
    cases h
theorem cut_take {ds : List D} {n : Nat} : cutD ds none (some (n : Int)) = ds.take n := by
  show (ds.drop 0).take (HT.sIx ds.length ds.length (some (n : Int)) - 0) = _
  rw [HT.sIx_nat, List.drop_zero, Nat.sub_zero]
  by_cases h : n ≤ ds.length
  · rw [Nat.min_eq_left h]
  · rw [Nat.min_eq_right (by omega), List.take_length, List.take_of_length_le (by omega)]
theorem repD_one {d : D} (n : Nat) : repD n [d] = List.replicate n d := by
  unfold repD
  induction n with
  | zero => rfl
  | succ n ih => rw [List.replicate_succ, List.flatten_cons, ih, List.replicate_succ]; rfl
theorem fRepr_bl {O : DH} {b : Bool} {Q : D → Prop} (q : Q (.str (PyData.bool b).shown)) : fRepr O [.bl b] Q := by
  cases b
  · exact ⟨rfl, rfl, by decide, by decide, q⟩
  · exact ⟨rfl, rfl, by decide, by decide, q⟩
theorem fEq_same {O : DH} {i : Str} {Q : D → Prop} : fEq O (.str i) (.str i) Q = Q (.bl true) := by rw [fEq_ss, decide_eq_true rfl]
theorem fNe_same {O : DH} {i : Str} {Q : D → Prop} : fNe O (.str i) (.str i) Q = Q (.bl false) := by rw [fNe_ss, decide_eq_true rfl]; rfl
theorem sz0 : (0 ≤ sizeLine) = True := eq_true (Nat.le_trans (by decide : 0 ≤ 100000) (by decide))
theorem sz1 : (1 ≤ sizeLine) = True := eq_true (Nat.le_trans (by decide : 1 ≤ 100000) (by decide))
theorem sz2 : (2 ≤ sizeLine) = True := eq_true (Nat.le_trans (by decide : 2 ≤ 100000) (by decide))
theorem sz3 : (3 ≤ sizeLine) = True := eq_true (Nat.le_trans (by decide : 3 ≤ 100000) (by decide))
theorem sz4 : (4 ≤ sizeLine) = True := eq_true (Nat.le_trans (by decide : 4 ≤ 100000) (by decide))
theorem sz5 : (5 ≤ sizeLine) = True := eq_true (Nat.le_trans (by decide : 5 ≤ 100000) (by decide))
theorem sz6 : (6 ≤ sizeLine) = True := eq_true (Nat.le_trans (by decide : 6 ≤ 100000) (by decide))
theorem sz7 : (7 ≤ sizeLine) = True := eq_true (Nat.le_trans (by decide : 7 ≤ 100000) (by decide))
theorem sz8 : (8 ≤ sizeLine) = True := eq_true (Nat.le_trans (by decide : 8 ≤ 100000) (by decide))
theorem sz9 : (9 ≤ sizeLine) = True := eq_true (Nat.le_trans (by decide : 9 ≤ 100000) (by decide))
theorem sz10 : (10 ≤ sizeLine) = True := eq_true (Nat.le_trans (by decide : 10 ≤ 100000) (by decide))
theorem sz11 : (11 ≤ sizeLine) = True := eq_true (Nat.le_trans (by decide : 11 ≤ 100000) (by decide))
theorem sz12 : (12 ≤ sizeLine) = True := eq_true (Nat.le_trans (by decide : 12 ≤ 100000) (by decide))
theorem sz13 : (13 ≤ sizeLine) = True := eq_true (Nat.le_trans (by decide : 13 ≤ 100000) (by decide))
theorem sz14 : (14 ≤ sizeLine) = True := eq_true (Nat.le_trans (by decide : 14 ≤ 100000) (by decide))
theorem sz15 : (15 ≤ sizeLine) = True := eq_true (Nat.le_trans (by decide : 15 ≤ 100000) (by decide))
theorem sz16 : (16 ≤ sizeLine) = True := eq_true (Nat.le_trans (by decide : 16 ≤ 100000) (by decide))
theorem sz17 : (17 ≤ sizeLine) = True := eq_true (Nat.le_trans (by decide : 17 ≤ 100000) (by decide))
theorem sz18 : (18 ≤ sizeLine) = True := eq_true (Nat.le_trans (by decide : 18 ≤ 100000) (by decide))
theorem sz19 : (19 ≤ sizeLine) = True := eq_true (Nat.le_trans (by decide : 19 ≤ 100000) (by decide))
theorem sz20 : (20 ≤ sizeLine) = True := eq_true (Nat.le_trans (by decide : 20 ≤ 100000) (by decide))
theorem sz21 : (21 ≤ sizeLine) = True := eq_true (Nat.le_trans (by decide : 21 ≤ 100000) (by decide))
theorem sz22 : (22 ≤ sizeLine) = True := eq_true (Nat.le_trans (by decide : 22 ≤ 100000) (by decide))
theorem sz23 : (23 ≤ sizeLine) = True := eq_true (Nat.le_trans (by decide : 23 ≤ 100000) (by decide))
theorem sz24 : (24 ≤ sizeLine) = True := eq_true (Nat.le_trans (by decide : 24 ≤ 100000) (by decide))
theorem sz25 : (25 ≤ sizeLine) = True := eq_true (Nat.le_trans (by decide : 25 ≤ 100000) (by decide))
theorem sz26 : (26 ≤ sizeLine) = True := eq_true (Nat.le_trans (by decide : 26 ≤ 100000) (by decide))
theorem sz27 : (27 ≤ sizeLine) = True := eq_true (Nat.le_trans (by decide : 27 ≤ 100000) (by decide))
theorem sz28 : (28 ≤ sizeLine) = True := eq_true (Nat.le_trans (by decide : 28 ≤ 100000) (by decide))
theorem sz29 : (29 ≤ sizeLine) = True := eq_true (Nat.le_trans (by decide : 29 ≤ 100000) (by decide))
theorem sz30 : (30 ≤ sizeLine) = True := eq_true (Nat.le_trans (by decide : 30 ≤ 100000) (by decide))
/-- what each law's def is asked -/
def sd_law : SpD := fun ds O Q E => match ds with
  | [.wl ds] => ∃ ns : List Int, ds = ns.map .int ∧ ns.length ≤ 63 ∧ (∀ i ∈ ns, PySem.Builtin.Int.intBits i ≤ 1048576) ∧ O = noO ∧ ∀ O', Q (.bl true) O'
  | _ => False
theorem law_sp : LawSp sd_law 63 := fun ns hl hb => ⟨ns, rfl, hl, hb, rfl, fun _ => rfl⟩
/-- the laws' vessel, of the script's first n cells -/
def tVessel (n : Int) : TDS := (dRet (dLstM (dCons (dLc (dISeq (dSl (dVar 0) dNoP (dPart (dC (.int n))))) (gN 1) dYes (dCB fInt (dCons (dVar 1) dNil)) [1]) (dCons (dC (.int 0)) (dCons (dC (.int 0)) dNil)))))
def sd_vessel : SpD := fun ds O Q E => match ds with
  | [.wl ds] => ∃ ns : List Int, ds = ns.map .int ∧ ns.length ≤ 100000 ∧ ∀ a m, O a = none → VesM 0 m → Q (.ref a) (updO O a m)
  | _ => False
theorem cut_ints (ns : List Int) (lo hi : Option Int) : ∃ ms : List Int, cutD (ns.map D.int) lo hi = ms.map D.int ∧ ms.length ≤ ns.length := by
  refine ⟨(ns.drop (HT.sIx ns.length 0 lo)).take (HT.sIx ns.length ns.length hi - HT.sIx ns.length 0 lo), ?_, ?_⟩
  · unfold cutD
    rw [List.length_map, ← List.map_drop, ← List.map_take]
  · rw [List.length_take, List.length_drop]
    omega
theorem small_line {n : Nat} (h : n ≤ 100000) : n ≤ sizeLine := Nat.le_trans h (by decide)
theorem rd_vessel (n : Int) : ∀ ds O Q E, sd_vessel ds O Q E → tVessel n (ends Q E) (dstart 2 ds) O := by
  intro ds O Q E h
  unfold sd_vessel at h
  split at h
  · obtain ⟨ns, rfl, hl, q⟩ := h
    show tVessel n (ends Q E) [some (.wl (ns.map .int)), none] O
    unfold tVessel
    walk_at "dx"
    walk_at "df"
    obtain ⟨ms, em, hm⟩ := cut_ints ns none (some n)
    simp only [em]
    intro a ha
    refine lc_map (fun e => e) (by rw [List.length_map]; exact small_line (by omega)) ha (fun _ _ => trivial) (fun e hem O2 R s r => ?_) ?_
    · obtain ⟨i, _, rfl⟩ := List.mem_map.mp hem
      exact r
    · refine ⟨small_line (by decide), fun v hv => ⟨_, Sub.refl _, q v _ hv ⟨ms, 0, 0, by rw [List.map_id'], by omega, by decide, by decide, by decide⟩⟩⟩
  · exact h.elim
theorem fIx_at {O : DH} {x d : D} {es : List D} {i : Int} {Q : D → Prop} (h : items O x = some es) (h2 : atI es i = some d) (q : Q d) : fIx O x (.int i) Q := by
  have e : ixD O x (.int i) = some d := by
    unfold ixD
    cases x <;> first | (show (items O _).bind _ = _; rw [h]; exact h2) | (cases h)
  unfold fIx
  rw [e]
  exact q
/-- the laws' def that picks one of some things -/
def tPick (sp : SpD) (g : List D → List D → List D) : TDS := (dRet (dBin fIx (dVar 1) (dCall sp 2 0 g (dCons (dVar 0) (dCons (dCB fLen (dCons (dVar 1) dNil)) dNil)) dNil)))
def sd_pick : SpD := fun ds O Q E => match ds with
  | [.ref v, .lst ds] => ∃ t m, O v = some m ∧ VesM t m ∧ t < 1000000 ∧ 0 < ds.length ∧ ds.length < 1000000 ∧ ∀ x m', x ∈ ds → VesM (t + 1) m' → Q x (updO O v m')
  | _ => False
theorem rd_pick (g : List D → List D → List D) (hg : ∀ x y, g [x, y] [] = [x, y]) : ∀ ds O Q E, sd_pick ds O Q E → tPick sd_draw g (ends Q E) (dstart 2 ds) O := by
  intro ds O Q E h
  unfold sd_pick at h
  split at h
  · rename_i v es
    obtain ⟨t, m, hv, hm, ht, h0, h1, q⟩ := h
    show tPick sd_draw g (ends Q E) [some (.ref v), some (.lst es)] O
    unfold tPick
    walk_at "dx"
    simp only [fLen, lenD, items, Option.map_some]
    rw [hg]
    simp only [true_and]
    refine ⟨t, m, hv, hm, ht, by omega, by omega, fun r m' r0 r1 hm' => ?_⟩
    obtain ⟨k, rfl⟩ := Int.eq_ofNat_of_zero_le r0
    have hk : k < es.length := by omega
    exact fIx_at (es := es) rfl (atI_nat (List.getElem?_eq_getElem hk)) ⟨_, Sub.refl _, q _ _ (List.getElem_mem hk) hm'⟩
  · exact h.elim
theorem fRepr_bls {O : DH} {bs : List Bool} {Q : D → Prop} (hl : bs.length ≤ 1000) (q : Q (.str (PyData.list (bs.map PyData.bool)).shown)) : fRepr O [.lst (bs.map D.bl)] Q := by
  have e : shown? O (.lst (bs.map D.bl)) = some (.list (bs.map PyData.bool)) := by
    show (D.pys (bs.map D.bl)).map PyData.list = _
    rw [pys_bls]
    rfl
  show (match shown? O (.lst (bs.map D.bl)) with
    | some p => p.showable = true ∧ p.hasDict = false ∧ p.depth ≤ 100 ∧ p.shown.length ≤ sizeLine ∧ Q (.str p.shown)
    | none => False)
  rw [e]
  refine ⟨showable_bls bs, nodict_bls bs, ?_, ?_, q⟩
  · have := depth_bls bs
    show PyData.depthAll _ + 1 ≤ 100
    omega
  · refine PyData.shown_fits_bulk (B := 8) (by decide) (by decide) ?_ ?_
    · show PyData.leavesShortAll 8 _ = true
      clear e q hl
      induction bs with
      | nil => rfl
      | cons b r ih => rw [List.map_cons]; unfold PyData.leavesShortAll; rw [ih]; rfl
    · have hb : ∀ bs : List Bool, PyData.bulkAll (bs.map PyData.bool) ≤ 4 * bs.length := by
        intro bs
        induction bs with
        | nil => simp [PyData.bulkAll]
        | cons b r ih =>
          rw [List.map_cons, List.length_cons]
          unfold PyData.bulkAll
          simp only [PyData.bulk]
          omega
      have := hb bs
      simp only [PyData.bulk]
      omega
end Dx
namespace Dx
open PySem L2
/-! ### kinds of plain values, all alike -/
structure Cod (α : Type) [DecidableEq α] (n : Nat) where
  d : α → D
  p : α → PyData
  py : ∀ a, (d a).py = some (p a)
  can : ∀ a, (p a).canLay0 = true
  dep : ∀ a, (p a).depth ≤ n
  eq : ∀ a b, PyData.eqv (p a) (p b) = decide (a = b)
section
variable {α : Type} [DecidableEq α] {n : Nat} (c : Cod α n)
theorem Cod.pys (xs : List α) : D.pys (xs.map c.d) = some (xs.map c.p) := by
  induction xs with
  | nil => rfl
  | cons x r ih => rw [List.map_cons, List.map_cons]; unfold D.pys; rw [c.py, ih]
theorem Cod.cans (xs : List α) : PyData.canLayAll0 (xs.map c.p) = true := by
  induction xs with
  | nil => rfl
  | cons x r ih => rw [List.map_cons]; unfold PyData.canLayAll0; rw [c.can, ih]; rfl
theorem Cod.deps (xs : List α) : PyData.depthAll (xs.map c.p) ≤ n := by
  induction xs with
  | nil => simp [PyData.depthAll]
  | cons x r ih => rw [List.map_cons]; unfold PyData.depthAll; have := c.dep x; omega
theorem Cod.eqs : ∀ xs ys : List α, PyData.eqvAll (xs.map c.p) (ys.map c.p) = decide (xs = ys)
  | [], [] => rfl
  | [], _ :: _ => rfl
  | _ :: _, [] => rfl
  | x :: xs, y :: ys => by
    rw [List.map_cons, List.map_cons]
    unfold PyData.eqvAll
    rw [c.eq, Cod.eqs xs ys, Bool.eq_iff_iff]
    simp
def Cod.tup : Cod (List α) (n + 1) where
  d := fun xs => .tup (xs.map c.d)
  p := fun xs => .tuple (xs.map c.p)
  py := fun xs => by show (D.pys (xs.map c.d)).map PyData.tuple = _; rw [c.pys]; rfl
  can := fun xs => c.cans xs
  dep := fun xs => by have := c.deps xs; show PyData.depthAll _ + 1 ≤ _; omega
  eq := fun xs ys => c.eqs xs ys
def Cod.lst : Cod (List α) (n + 1) where
  d := fun xs => .lst (xs.map c.d)
  p := fun xs => .list (xs.map c.p)
  py := fun xs => by show (D.pys (xs.map c.d)).map PyData.list = _; rw [c.pys]; rfl
  can := fun xs => c.cans xs
  dep := fun xs => by have := c.deps xs; show PyData.depthAll _ + 1 ≤ _; omega
  eq := fun xs ys => c.eqs xs ys
theorem Cod.shp (h : n < 64) (xs : List α) : SeqAt.shaped (.tuple (xs.map c.p)) = true ∧ SeqAt.shaped (.list (xs.map c.p)) = true := by
  have := c.deps xs
  constructor
  · show (PyData.canLayAll0 _ && decide (PyData.depthAll _ + 1 ≤ 64)) = true
    rw [c.cans, Bool.true_and, decide_eq_true_eq]
    omega
  · show (PyData.canLayAll0 _ && decide (PyData.depthAll _ + 1 ≤ 64)) = true
    rw [c.cans, Bool.true_and, decide_eq_true_eq]
    omega
variable {O : DH} {xs ys : List α} {Q : D → Prop}
theorem fEq_tup (h : n < 64) (q : Q (.bl (decide (xs = ys)))) : fEq O (.tup (xs.map c.d)) (.tup (ys.map c.d)) Q := by
  have e1 : ∀ xs : List α, shown? O (.tup (xs.map c.d)) = some (.tuple (xs.map c.p)) := fun xs => (c.tup).py xs
  show (match shown? O (.tup (xs.map c.d)), shown? O (.tup (ys.map c.d)) with
    | some p, some q => SeqAt.shaped p = true ∧ SeqAt.shaped q = true ∧ Q (.bl (PyData.eqv p q))
    | _, _ => False)
  rw [e1, e1]
  refine ⟨(c.shp h xs).1, (c.shp h ys).1, ?_⟩
  have e := c.tup.eq xs ys
  rw [show PyData.eqv (.tuple (xs.map c.p)) (.tuple (ys.map c.p)) = decide (xs = ys) from e]
  exact q
theorem fNe_tup (h : n < 64) (q : Q (.bl (!decide (xs = ys)))) : fNe O (.tup (xs.map c.d)) (.tup (ys.map c.d)) Q := by
  have e1 : ∀ xs : List α, shown? O (.tup (xs.map c.d)) = some (.tuple (xs.map c.p)) := fun xs => (c.tup).py xs
  show (match shown? O (.tup (xs.map c.d)), shown? O (.tup (ys.map c.d)) with
    | some p, some q => SeqAt.shaped p = true ∧ SeqAt.shaped q = true ∧ Q (.bl (!PyData.eqv p q))
    | _, _ => False)
  rw [e1, e1]
  refine ⟨(c.shp h xs).1, (c.shp h ys).1, ?_⟩
  have e := c.tup.eq xs ys
  rw [show PyData.eqv (.tuple (xs.map c.p)) (.tuple (ys.map c.p)) = decide (xs = ys) from e]
  exact q
theorem fEq_lst (h : n < 64) (q : Q (.bl (decide (xs = ys)))) : fEq O (.lst (xs.map c.d)) (.lst (ys.map c.d)) Q := by
  have e1 : ∀ xs : List α, shown? O (.lst (xs.map c.d)) = some (.list (xs.map c.p)) := fun xs => (c.lst).py xs
  show (match shown? O (.lst (xs.map c.d)), shown? O (.lst (ys.map c.d)) with
    | some p, some q => SeqAt.shaped p = true ∧ SeqAt.shaped q = true ∧ Q (.bl (PyData.eqv p q))
    | _, _ => False)
  rw [e1, e1]
  refine ⟨(c.shp h xs).2, (c.shp h ys).2, ?_⟩
  have e := c.lst.eq xs ys
  rw [show PyData.eqv (.list (xs.map c.p)) (.list (ys.map c.p)) = decide (xs = ys) from e]
  exact q
theorem fNe_lst (h : n < 64) (q : Q (.bl (!decide (xs = ys)))) : fNe O (.lst (xs.map c.d)) (.lst (ys.map c.d)) Q := by
  have e1 : ∀ xs : List α, shown? O (.lst (xs.map c.d)) = some (.list (xs.map c.p)) := fun xs => (c.lst).py xs
  show (match shown? O (.lst (xs.map c.d)), shown? O (.lst (ys.map c.d)) with
    | some p, some q => SeqAt.shaped p = true ∧ SeqAt.shaped q = true ∧ Q (.bl (!PyData.eqv p q))
    | _, _ => False)
  rw [e1, e1]
  refine ⟨(c.shp h xs).2, (c.shp h ys).2, ?_⟩
  have e := c.lst.eq xs ys
  rw [show PyData.eqv (.list (xs.map c.p)) (.list (ys.map c.p)) = decide (xs = ys) from e]
  exact q
end
def cInt : Cod Int 0 where
  d := .int
  p := .int
  py := fun _ => rfl
  can := fun _ => rfl
  dep := fun _ => Nat.le_refl 0
  eq := fun a b => by
    show (a == b) = decide (a = b)
    by_cases h : a = b <;> simp [h]
def oD : Option Int → D
  | none => .non
  | some i => .int i
def oP : Option Int → PyData
  | none => .none
  | some i => .int i
def cOpt : Cod (Option Int) 0 where
  d := oD
  p := oP
  py := fun a => by cases a <;> rfl
  can := fun a => by cases a <;> rfl
  dep := fun a => by cases a <;> exact Nat.le_refl 0
  eq := fun a b => by
    cases a <;> cases b <;> try rfl
    rename_i a b
    show (a == b) = decide (some a = some b)
    by_cases h : a = b <;> simp [h]
/-! ### two loops in one comprehension -/
theorem lc2_map {a : Addr} {i j : Nat} {wi1 : TDI} {te : TD} {vs1 : List Nat} {ρ : DEnv} {ds : List D} {O : DH} {gd : DH → Prop} {Q : List D → DH → Prop} (Fl : D → List D) (f : D → D) (hz : (ds.flatMap Fl).length ≤ sizeLine) (ha : O a = none) (hg : ∀ O2, Sub O O2 → gd O2)
    (hw : ∀ d ∈ ds, ∀ (O2 : DH) (R : List D → (DH → Prop) → DH → Prop), Sub O O2 → (∀ gd1 : DH → Prop, (∀ O3, Sub O O3 → gd1 O3) → R (Fl d) gd1 O2) → wi1 (ρ.set i (some d)) O2 R ENo)
    (h : ∀ d ∈ ds, ∀ e ∈ Fl d, ∀ (O2 : DH) (R : QD), Sub O O2 → R (f e) O2 → te ((dwipe (ρ.set i (some d)) vs1).set j (some e)) O2 R ENo) (q : Q ((ds.flatMap Fl).map f) O) :
    lcGo2 a (gN i) dYes wi1 (gN j) dYes te vs1 ρ gd (fun acc O2 => O2 a = some (.lst acc) ∧ ∃ O3, Sub O3 O2 ∧ O3 a = none ∧ Q acc O3) ds [] (updO O a (.lst [])) := by
  have go : ∀ (es : List D) (pre : List D), ds = pre ++ es → lcGo2 a (gN i) dYes wi1 (gN j) dYes te vs1 ρ gd (fun acc O2 => O2 a = some (.lst acc) ∧ ∃ O3, Sub O3 O2 ∧ O3 a = none ∧ Q acc O3) es ((pre.flatMap Fl).map f) (updO O a (.lst ((pre.flatMap Fl).map f))) := by
    intro es
    induction es with
    | nil =>
      intro pre e
      rw [List.append_nil] at e
      subst e
      exact ⟨hg _ (Sub.new ha), updO_same, O, Sub.new ha, ha, q⟩
    | cons d r ih =>
      intro pre e
      have hd : d ∈ ds := by rw [e]; simp
      refine ⟨hg _ (Sub.new ha), ?_⟩
      refine hw d hd _ _ (Sub.new ha) fun gd1 hgd => ⟨updO_same, ?_⟩
      have hlen : ((pre.flatMap Fl).map f).length + (Fl d).length ≤ sizeLine := by
        rw [List.length_map]
        rw [e, List.flatMap_append, List.flatMap_cons, List.length_append, List.length_append] at hz
        omega
      have inner : ∀ (xs : List D) (ys : List D), Fl d = ys ++ xs → lcGo a (gN j) dYes te (dwipe (ρ.set i (some d)) vs1) ENo gd1 (fun acc' O3 => lcGo2 a (gN i) dYes wi1 (gN j) dYes te vs1 ρ gd (fun acc O2 => O2 a = some (.lst acc) ∧ ∃ O3, Sub O3 O2 ∧ O3 a = none ∧ Q acc O3) r acc' O3) xs ((pre.flatMap Fl).map f ++ ys.map f) (updO O a (.lst ((pre.flatMap Fl).map f ++ ys.map f))) := by
        intro xs
        induction xs with
        | nil =>
          intro ys e2
          rw [List.append_nil] at e2
          refine ⟨hgd _ (Sub.new ha), ?_⟩
          · have := ih (pre ++ [d]) (by rw [e]; simp)
            rw [List.flatMap_append, List.map_append, List.flatMap_cons, List.flatMap_nil, List.append_nil, e2] at this
            exact this
        | cons x xs ih2 =>
          intro ys e2
          have hx : x ∈ Fl d := by rw [e2]; simp
          refine ⟨hgd _ (Sub.new ha), ?_⟩
          refine h d hd x hx _ _ (Sub.new ha) ⟨updO_same, ?_, ?_⟩
          · have hl2 := congrArg List.length e2
            rw [List.length_append, List.length_cons] at hl2
            rw [List.length_append, List.length_map (as := ys)]
            omega
          · have := ih2 (ys ++ [x]) (by rw [e2]; simp)
            rw [List.map_append, ← List.append_assoc] at this
            rw [updO_upd]
            exact this
      have := inner (Fl d) [] rfl
      rw [List.map_nil, List.append_nil] at this
      exact this
  exact go ds [] rfl
end Dx
namespace Dx
open PySem L2
local macro_rules | `(tactic| walk_at "dx") => `(tactic| simp only [dVar, dC, dBin, dUn, dTst, dTru, dAnd, dOr, dNot, dAndV, dOrV, dNotV, dIf, dChain, dNil, dCons, dTup, dLst, dLstM, dDic0, dDic1, dNoP, dPart, dSl, dCB, dIsi, dIsiT, dNext, dSeq, dRet, dRetF, dRetN, dDrop, dIfS, dBreak, dCont, dAsg, gN, gTu, gCn, gNl, dPar, dSetIx, dApp, dISeq, dIRng1, dIRng2, dFor, dCall, dLc, dLcM, dYes, dwipe, ends,
  List.getElem?_cons_zero, List.getElem?_cons_succ, List.getElem?_nil, List.set_cons_zero, List.set_cons_succ, List.length_cons, List.length_nil, Nat.zero_add, Nat.reduceAdd, true_and])
local macro_rules | `(tactic| walk_at "df") => `(tactic| simp only [fAdd, fSub, fMul, fMod, fFd, fPow, fNeg, fLt, fLe, fGt, fGe, fI, fI0, fU, fIsN, fNotN, fIx, fSl, fLen, fInt, fAbs, fMax2, fMin2, fStr, fTuple, fList, fAll, fAny, fSum, fEq_ii, fNe_ii, fEq_ss, fNe_ss, fEq_bb, fNe_bb, atI_0, atI_1, atI_2, ixN_0, ixN_1, ixN_2, Option.bind_some, Option.map_some, shown?, D.py, D.pys, updO_upd, kindD_non, kindD_bl, kindD_int, kindD_str, kindD_lst, kindD_tup, kindD_dic, items_lst, items_tup, items_wl, itemsL_lst, itemsL_wl, trkD_lst, items_ref, itemsL_ref, trkD_ref, kindD_ref, lenD_lst, lenD_tup, lenD_wl, lenD_dic, lenD_ref, lenD_str, truth_non, truth_bl, truth_int, truth_str, truth_dic, truth_lst, truth_tup, truth_wl, truth_ref, keyD_int, keyD_str, noneD_non, noneD_bl, noneD_int, noneD_str, noneD_lst, noneD_tup, noneD_dic, noneD_ref, sz0, sz1, sz2, sz3, sz4, sz5, sz6, sz7, sz8, sz9, sz10, sz11, sz12, sz13, sz14, sz15, sz16, sz17, sz18, sz19, sz20, sz21, sz22, sz23, sz24, sz25, sz26, sz27, sz28, sz29, sz30, true_and, and_true])
def isInt : D → Bool
  | .int _ => true
  | _ => false
theorem isInt_of {O : DH} {d : D} {k : String} (h : kindD O d = some k) : (subT k "int" && !subT k "bool") = isInt d := by
  cases d <;> simp [kindD] at h <;> try (subst h; rfl)
  · split at h
    · cases h; rfl
    · cases h
def bnd : D → Option (Option Int)
  | .int i => some (some i)
  | .non => some none
  | _ => none
def within (d : D) (l h : Option Int) : Bool := match d with
  | .int v => (match l with
    | some l => decide (l ≤ v)
    | none => true) && (match h with
    | some h => decide (v ≤ h)
    | none => true)
  | _ => false
theorem kind_sub {O O' : DH} (s : Sub O O') {d : D} {k : String} (h : kindD O d = some k) : kindD O' d = some k := by
  cases d <;> try exact h
  rename_i a
  unfold kindD at h ⊢
  simp only at h ⊢
  cases e : O a with
  | none => rw [e] at h; cases h
  | some m => rw [e] at h; rw [s a m e]; exact h
def Kd (O : DH) (d : D) : Prop := (kindD O d).isSome = true
theorem Kd.sub {O O' : DH} (s : Sub O O') {d : D} (h : Kd O d) : Kd O' d := by
  obtain ⟨k, hk⟩ := Option.isSome_iff_exists.mp h
  show (kindD O' d).isSome = true
  rw [kind_sub s hk]; rfl
theorem seq_items {O : DH} {d : D} {k : String} (h : kindD O d = some k) : anyT k ["list", "tuple"] = (items O d).isSome := by
  cases d <;> simp [kindD, items] at h ⊢ <;> try (subst h; rfl)
  rename_i a
  cases e : O a with
  | none => rw [e] at h; cases h
  | some m =>
    rw [e] at h
    cases m with
    | lst ds => cases h; rfl
    | dic ks => cases h
    | ins C fs => cases h
theorem len_items {O : DH} {d : D} {es : List D} (h : items O d = some es) : lenD O d = some es.length := by
  have gen : (items O d).map List.length = some es.length := by rw [h]; rfl
  cases d <;> first | exact gen | cases h
def Row (O : DH) (d : D) : Prop := Kd O d ∧ ∀ ds, items O d = some ds → ds.length ≤ sizeLine ∧ ∀ e ∈ ds, Kd O e
def isRow (O : DH) (d : D) (n : Int) : Bool := match items O d with
  | some ds => decide ((ds.length : Int) = n) && ds.all isInt
  | none => false
def isText (O : DH) (d : D) (L M : Int) : Bool := match items O d with
  | some ds => decide ((ds.length : Int) ≤ M) && ds.all fun e => within e (some 0) (some (L - 1))
  | none => false
theorem all_bls (f : D → Bool) (ds : List D) : blsD (ds.map fun d => D.bl (f d)) = some (ds.map f) := by
  induction ds with
  | nil => rfl
  | cons d r ih => rw [List.map_cons, List.map_cons]; unfold blsD; rw [ih]; rfl
theorem fAll_map {O O3 : DH} (f : D → Bool) (ds : List D) {Q : QD} (s : Sub O O3) (q : Q (.bl (ds.all f)) O) : fAll O3 [.lst (ds.map fun d => .bl (f d))] fun z => ∃ O2, Sub O2 O3 ∧ Q z O2 := by
  show (match blsD (ds.map fun d => D.bl (f d)) with
    | some bs => (∃ O2, Sub O2 O3 ∧ Q (.bl (bs.all id)) O2)
    | none => False)
  rw [all_bls]
  refine ⟨O, s, ?_⟩
  rw [List.all_map]
  exact q
theorem guard_sub {O : DH} {d : D} {ds : List D} (h : items O d = some ds) : ∀ O2, Sub O O2 → guardD d ds O2 := fun O2 s => by
  cases d <;> try trivial
  rename_i a
  unfold items at h
  simp only at h
  split at h
  · next e => cases h; exact s _ _ e
  · cases h
def leaf : D → Bool
  | .non | .bl _ | .int _ | .str _ | .lst _ | .tup _ | .dic _ => true
  | _ => false
def plain : D → Bool
  | .lst ds | .tup ds => decide (ds.length ≤ 100000) && ds.all leaf
  | d => leaf d
theorem leaf_kd {d : D} (h : leaf d = true) (O : DH) : Kd O d := by cases d <;> first | rfl | cases h
theorem plain_leaf {d : D} (h : plain d = true) : leaf d = true := by cases d <;> first | rfl | cases h
theorem plain_row {d : D} (h : plain d = true) (O : DH) : Row O d := by
  refine ⟨leaf_kd (plain_leaf h) O, fun ds hd => ?_⟩
  have fin : ∀ ds : List D, (decide (ds.length ≤ 100000) && ds.all leaf) = true → ds.length ≤ sizeLine ∧ ∀ e ∈ ds, Kd O e := fun ds h => by
    rw [Bool.and_eq_true, decide_eq_true_eq, List.all_eq_true] at h
    exact ⟨small_line h.1, fun e he => leaf_kd (h.2 e he) O⟩
  cases d with
  | lst es => cases hd; exact fin _ h
  | tup es => cases hd; exact fin _ h
  | wl => cases h
  | ref => cases h
  | _ => cases hd
theorem log_small {i : Int} (h1 : -(2 ^ 100) < i) (h2 : i < 2 ^ 100) : i.natAbs.log2 < 1920 := by
  by_cases hz : i.natAbs = 0
  · rw [hz]; decide
  · have h : i.natAbs.log2 < 100 := (Nat.log2_lt hz).mpr (by omega)
    omega
theorem cut_sub (es : List D) (lo hi : Option Int) : (∀ e ∈ cutD es lo hi, e ∈ es) ∧ (cutD es lo hi).length ≤ es.length := by
  unfold cutD
  refine ⟨fun e he => List.mem_of_mem_drop (List.mem_of_mem_take he), ?_⟩
  rw [List.length_take, List.length_drop]
  omega
theorem isInt_leaf {d : D} (h : isInt d = true) : leaf d = true := by cases d <;> first | rfl | cases h
theorem plain_lst {ds : List D} (h : ds.length ≤ 100000) (h2 : ∀ d ∈ ds, leaf d = true) : plain (.lst ds) = true := by
  show (decide _ && _) = true
  rw [Bool.and_eq_true, decide_eq_true_eq, List.all_eq_true]
  exact ⟨h, h2⟩
theorem plain_tup {ds : List D} (h : ds.length ≤ 100000) (h2 : ∀ d ∈ ds, leaf d = true) : plain (.tup ds) = true := plain_lst (ds := ds) h h2
theorem all_get {ds : List D} {p : D → Prop} (h : ∀ (k : Nat) (y : D), ds[k]? = some y → p y) : ∀ d ∈ ds, p d := fun d hd => by
  obtain ⟨k, hk⟩ := List.getElem?_of_mem hd
  exact h k d hk
theorem all_mid {p : D → Bool} {xs ys : List D} {d : D} (h : p d = false) : (xs ++ [d] ++ ys).all p = false := by
  rw [List.all_append, List.all_append, List.all_cons, h]
  simp
theorem within_int {v l h : Int} : within (.int v) (some l) (some h) = (decide (l ≤ v) && decide (v ≤ h)) := rfl
theorem within_odd {d : D} (h : isInt d = false) (l u : Option Int) : within d l u = false := by cases d <;> first | rfl | cases h
theorem isRow_lst {O : DH} {ds : List D} {n : Int} : isRow O (.lst ds) n = (decide ((ds.length : Int) = n) && ds.all isInt) := rfl
theorem isRow_tup {O : DH} {ds : List D} {n : Int} : isRow O (.tup ds) n = (decide ((ds.length : Int) = n) && ds.all isInt) := rfl
theorem isText_lst {O : DH} {ds : List D} {L M : Int} : isText O (.lst ds) L M = (decide ((ds.length : Int) ≤ M) && ds.all fun e => within e (some 0) (some (L - 1))) := rfl
theorem isText_tup {O : DH} {ds : List D} {L M : Int} : isText O (.tup ds) L M = (decide ((ds.length : Int) ≤ M) && ds.all fun e => within e (some 0) (some (L - 1))) := rfl
theorem items_sub {O O' : DH} (s : Sub O O') {d : D} (h : Kd O d) : items O' d = items O d := by
  cases d <;> try rfl
  rename_i a
  unfold items
  simp only
  have h' : (kindD O (.ref a)).isSome = true := h
  unfold kindD at h'
  simp only at h'
  cases e : O a with
  | none => rw [e] at h'; cases h'
  | some m => rw [s a m e]
theorem fIx_eq {O : DH} {x d : D} {es : List D} {i : Int} {Q : D → Prop} (h : items O x = some es) (h2 : atI es i = some d) : fIx O x (.int i) Q = Q d := by
  have e : ixD O x (.int i) = some d := by
    unfold ixD
    cases x <;> first | (show (items O _).bind _ = _; rw [h]; exact h2) | (cases h)
  unfold fIx
  rw [e]
theorem fLen_eq {O : DH} {x : D} {es : List D} {Q : D → Prop} (h : items O x = some es) : fLen O [x] Q = Q (.int es.length) := by
  show (match lenD O x with
    | some n => Q (.int n)
    | none => False) = _
  rw [len_items h]
theorem fTuple_eq {O : DH} {x : D} {es : List D} {Q : D → Prop} (h : items O x = some es) : fTuple O [x] Q = Q (.tup es) := by
  show (match items O x with
    | some ds => Q (.tup ds)
    | none => False) = _
  rw [h]
/-- rows of plain items -/
def Rows (O : DH) (d : D) : Prop := Row O d ∧ ∀ ds, items O d = some ds → ∀ e ∈ ds, Row O e
theorem Row.sub {O O' : DH} (s : Sub O O') {d : D} (h : Row O d) : Row O' d := by
  refine ⟨h.1.sub s, fun ds hd => ?_⟩
  rw [items_sub s h.1] at hd
  exact ⟨(h.2 ds hd).1, fun e he => ((h.2 ds hd).2 e he).sub s⟩
theorem Rows.sub {O O' : DH} (s : Sub O O') {d : D} (h : Rows O d) : Rows O' d := by
  refine ⟨h.1.sub s, fun ds hd e he => ?_⟩
  rw [items_sub s h.1.1] at hd
  exact (h.2 ds hd e he).sub s
theorem seq_step {t u : TDS} {E : DEnds} {ρ : DEnv} {O : DH} (h : ∀ U, U = u → dSeq t U E ρ O) : dSeq t u E ρ O := h u rfl
theorem fAll_mapE {O : DH} (f : D → Bool) (ds : List D) {Q : D → Prop} : fAll O [.lst (ds.map fun d => .bl (f d))] Q = Q (.bl (ds.all f)) := by
  show (match blsD (ds.map fun d => D.bl (f d)) with
    | some bs => Q (.bl (bs.all id))
    | none => False) = _
  rw [all_bls]
  show Q (.bl ((ds.map f).all id)) = _
  rw [List.all_map]
  rfl
/-- an instance that changes is no plain value -/
theorem items_ins {O : DH} {a C : Addr} {gs : List (Str × D)} {m : MO} (ha : O a = some (.ins C gs)) {d : D} (h : Kd O d) : items (updO O a m) d = items O d ∧ Kd (updO O a m) d := by
  cases d <;> first | exact ⟨rfl, h⟩ | skip
  rename_i b
  have ne : b ≠ a := fun e => by
    subst e
    have h' : (kindD O (.ref b)).isSome = true := h
    unfold kindD at h'
    simp only [ha] at h'
    cases h'
  constructor
  · unfold items
    simp only [updO_ne ne]
  · have h' : (kindD O (.ref b)).isSome = true := h
    show (kindD (updO O a m) (.ref b)).isSome = true
    unfold kindD at h' ⊢
    simp only [updO_ne ne]
    exact h'
theorem fAny_mapE {O : DH} (f : D → Bool) (ds : List D) {Q : D → Prop} : fAny O [.lst (ds.map fun d => .bl (f d))] Q = Q (.bl (ds.any f)) := by
  show (match blsD (ds.map fun d => D.bl (f d)) with
    | some bs => Q (.bl (bs.any id))
    | none => False) = _
  rw [all_bls]
  show Q (.bl ((ds.map f).any id)) = _
  rw [List.any_map]
  rfl
end Dx
namespace Dx
open PySem L2
local macro_rules | `(tactic| walk_at "dx") => `(tactic| simp only [dVar, dC, dBin, dUn, dTst, dTru, dAnd, dOr, dNot, dAndV, dOrV, dNotV, dIf, dChain, dNil, dCons, dTup, dLst, dLstM, dDic0, dDic1, dNoP, dPart, dSl, dCB, dIsi, dIsiT, dNext, dSeq, dRet, dRetF, dRetN, dDrop, dIfS, dBreak, dCont, dAsg, gN, gTu, gCn, gNl, dPar, dSetIx, dApp, dISeq, dIRng1, dIRng2, dFor, dCall, dLc, dLcM, dYes, dwipe, ends,
  List.getElem?_cons_zero, List.getElem?_cons_succ, List.getElem?_nil, List.set_cons_zero, List.set_cons_succ, List.length_cons, List.length_nil, Nat.zero_add, Nat.reduceAdd, true_and])
local macro_rules | `(tactic| walk_at "df") => `(tactic| simp only [fAdd, fSub, fMul, fMod, fFd, fPow, fNeg, fLt, fLe, fGt, fGe, fI, fI0, fU, fIsN, fNotN, fIx, fSl, fLen, fInt, fAbs, fMax2, fMin2, fStr, fTuple, fList, fAll, fAny, fSum, fEq_ii, fNe_ii, fEq_ss, fNe_ss, fEq_bb, fNe_bb, atI_0, atI_1, atI_2, ixN_0, ixN_1, ixN_2, Option.bind_some, Option.map_some, shown?, D.py, D.pys, updO_upd, kindD_non, kindD_bl, kindD_int, kindD_str, kindD_lst, kindD_tup, kindD_dic, items_lst, items_tup, items_wl, itemsL_lst, itemsL_wl, trkD_lst, items_ref, itemsL_ref, trkD_ref, kindD_ref, lenD_lst, lenD_tup, lenD_wl, lenD_dic, lenD_ref, lenD_str, truth_non, truth_bl, truth_int, truth_str, truth_dic, truth_lst, truth_tup, truth_wl, truth_ref, keyD_int, keyD_str, noneD_non, noneD_bl, noneD_int, noneD_str, noneD_lst, noneD_tup, noneD_dic, noneD_ref, sz0, sz1, sz2, sz3, sz4, sz5, sz6, sz7, sz8, sz9, sz10, sz11, sz12, sz13, sz14, sz15, sz16, sz17, sz18, sz19, sz20, sz21, sz22, sz23, sz24, sz25, sz26, sz27, sz28, sz29, sz30, true_and, and_true])
/-- the mixing of a drawing, by plain numbers -/
theorem mix_ok (A0 B0 M1 A1 B1 M2 B2 A2 B3 M3 : Int) (hA0 : 0 ≤ A0 ∧ A0 < 1000000) (hB0 : 0 ≤ B0 ∧ B0 < 1000000) (hM1 : 0 < M1 ∧ M1 < 4294967296) (hA1 : 0 ≤ A1 ∧ A1 < 1000000) (hB1 : 0 ≤ B1 ∧ B1 < 1000000) (hM2 : 0 < M2 ∧ M2 < 4294967296) (hB2 : 0 ≤ B2 ∧ B2 < 1000000) (hA2 : 0 ≤ A2 ∧ A2 < 1000000) (hB3 : 0 ≤ B3 ∧ B3 < 1000000) (hM3 : 0 < M3 ∧ M3 < 4294967296) {turn cell many : Int} (ht0 : 0 ≤ turn) (ht : turn < 1000000) (hm : 0 < many) {R : Int → Prop} (r : ∀ x, 0 ≤ x → x < many → R x) :
    M1 ≠ 0 ∧ CM A1 turn ∧ CPow (cell.fmod M1 + A1 * turn + B1) 5 ∧ M2 ≠ 0 ∧ CM 2 turn ∧ CM (((cell.fmod M1 + A1 * turn + B1) ^ Int.toNat 5).fmod M2) (2 * turn + B2) ∧ CM A2 turn ∧ CM (A2 * turn) turn ∧
            CPow (((cell.fmod M1 + A1 * turn + B1) ^ Int.toNat 5).fmod M2 * (2 * turn + B2) + A2 * turn * turn + B3) 3 ∧ M3 ≠ 0 ∧ CFd (((((cell.fmod M1 + A1 * turn + B1) ^ Int.toNat 5).fmod M2 * (2 * turn + B2) + A2 * turn * turn + B3) ^ Int.toNat 3).fmod M3) 64 ∧ many ≠ 0 ∧
              R (((((((cell.fmod M1 + A1 * turn + B1) ^ Int.toNat 5).fmod M2 * (2 * turn + B2) + A2 * turn * turn + B3) ^ Int.toNat 3).fmod M3).fdiv 64).fmod many) := by
  have htn : turn ≤ 1000000 := by omega
  have x1 := fm_lt (i := cell) hM1.1
  have x2 := sq_bound hA1.1 (by omega) ht0 htn
  have x3 := sq_bound hA2.1 (by omega) ht0 htn
  have x4 : 0 ≤ A2 * turn * turn ∧ A2 * turn * turn ≤ 1000000000000000000 := by
    refine ⟨Int.mul_nonneg x3.1 ht0, ?_⟩
    exact Int.le_trans (Int.mul_le_mul x3.2 htn ht0 (by decide)) (by decide)
  have y1 := fm_lt (i := (cell.fmod M1 + A1 * turn + B1) ^ Int.toNat 5) hM2.1
  generalize ((cell.fmod M1 + A1 * turn + B1) ^ Int.toNat 5).fmod M2 = mixed at y1 ⊢
  have y2 : 0 ≤ mixed * (2 * turn + B2) ∧ mixed * (2 * turn + B2) ≤ 4294967296 * 3000000 := by
    refine ⟨Int.mul_nonneg y1.1 (by omega), ?_⟩
    exact Int.mul_le_mul (by omega) (by omega) (by omega) (by decide)
  exact ⟨by omega, cm_small (by omega) (by omega), ⟨by decide, by decide, by omega⟩, by omega, cm_small (by decide) (by decide), cm_small (by omega) (by omega), cm_small (by omega) (by omega), cm_small (by omega) (by omega), ⟨by decide, by decide, by omega⟩, by omega, .inl ⟨by decide, by decide⟩, by omega, r _ (fm_lt hm).1 (fm_lt hm).2⟩
def tDraw2T (M1 A1 B1 M2 B2 A2 B3 M3 : Int) : TDS :=
    (dSeq (dIfS (dAnd (dTst (dBin fLt (dVar 3) (dCB fLen (dCons (dBin fIx (dVar 0) (dC (.int 0))) dNil)))) (dTst (dBin fGe (dCB fAbs (dCons (dVar 4) dNil)) (dBin fPow (dC (.int 10)) (dC (.int 18))))))
    (dSeq (dAsg (dBin fAdd (dBin fMul (dC (.int 2)) (dBin fSub (dCB fAbs (dCons (dCB fInt (dCons (dVar 4) dNil)) dNil)) (dBin fPow (dC (.int 10)) (dC (.int 18))))) (dCB fInt (dCons (dBin fLt (dVar 4) (dC (.int 0))) dNil))) (gN 2))
    (dSeq (dSetIx (dBin fFd (dVar 2) (dVar 1)) (dVar 0) (dC (.int 2)))
    (dRet (dBin fMod (dCB fInt (dCons (dVar 2) dNil)) (dVar 1)))))
    dNext)
    (dSeq (dAsg (dBin fMod (dCB fInt (dCons (dBin fPow (dBin fAdd (dBin fAdd (dBin fMod (dCB fInt (dCons (dVar 4) dNil)) (dC (.int M1))) (dBin fMul (dC (.int A1)) (dVar 3))) (dC (.int B1))) (dC (.int 5))) dNil)) (dC (.int M2))) (gN 5))
    (dSeq (dAsg (dBin fMod (dCB fInt (dCons (dBin fPow (dBin fAdd (dBin fAdd (dBin fMul (dVar 5) (dBin fAdd (dBin fMul (dC (.int 2)) (dVar 3)) (dC (.int B2)))) (dBin fMul (dBin fMul (dC (.int A2)) (dVar 3)) (dVar 3))) (dC (.int B3))) (dC (.int 3))) dNil)) (dC (.int M3))) (gN 5))
    (dRet (dBin fMod (dCB fInt (dCons (dBin fFd (dVar 5) (dC (.int 64))) dNil)) (dVar 1))))))
def tDraw2 (A0 B0 M1 A1 B1 M2 B2 A2 B3 M3 : Int) : TDS :=
    (dSeq (dIfS (dTst (dBin fGt (dBin fIx (dVar 0) (dC (.int 2))) (dC (.int 0))))
    (dSeq (dAsg (dCB fInt (dCons (dBin fIx (dVar 0) (dC (.int 2))) dNil)) (gN 2))
    (dSeq (dSetIx (dBin fFd (dVar 2) (dVar 1)) (dVar 0) (dC (.int 2)))
    (dRet (dBin fMod (dCB fInt (dCons (dVar 2) dNil)) (dVar 1)))))
    dNext)
    (dSeq (dAsg (dBin fIx (dVar 0) (dC (.int 1))) (gN 3))
    (dSeq (dSetIx (dBin fAdd (dVar 3) (dC (.int 1))) (dVar 0) (dC (.int 1)))
    (dSeq (dAsg (dBin fAdd (dBin fMul (dC (.int A0)) (dVar 3)) (dC (.int B0))) (gN 4))
    (dSeq (dIfS (dTst (dBin fNe (dBin fIx (dVar 0) (dC (.int 0))) (dLst dNil)))
    (dAsg (dBin fIx (dBin fIx (dVar 0) (dC (.int 0))) (dBin fMod (dCB fInt (dCons (dVar 3) dNil)) (dCB fLen (dCons (dBin fIx (dVar 0) (dC (.int 0))) dNil)))) (gN 4))
    dNext)
    (tDraw2T M1 A1 B1 M2 B2 A2 B3 M3))))))
theorem rd_draw2T (A0 B0 M1 A1 B1 M2 B2 A2 B3 M3 : Int) (hA0 : 0 ≤ A0 ∧ A0 < 1000000) (hB0 : 0 ≤ B0 ∧ B0 < 1000000) (hM1 : 0 < M1 ∧ M1 < 4294967296) (hA1 : 0 ≤ A1 ∧ A1 < 1000000) (hB1 : 0 ≤ B1 ∧ B1 < 1000000) (hM2 : 0 < M2 ∧ M2 < 4294967296) (hB2 : 0 ≤ B2 ∧ B2 < 1000000) (hA2 : 0 ≤ A2 ∧ A2 < 1000000) (hB3 : 0 ≤ B3 ∧ B3 < 1000000) (hM3 : 0 < M3 ∧ M3 < 4294967296) {O : DH} {v : Addr} {t many turn cell : Int} {rest : Int} {cells : List Int} {Q : QD} {E : XD} (hc : cells.length ≤ 100000) (ht0 : 0 ≤ turn) (ht1 : turn ≤ t) (ht : t < 1000000) (hm0 : 0 < many) (hm1 : many < 1073741824) (hr : 0 ≤ rest)
    (q : ∀ r m', 0 ≤ r → r < many → VesM (t + 1) m' → Q (.int r) (updO O v m')) :
    tDraw2T M1 A1 B1 M2 B2 A2 B3 M3 (ends Q E) [some (.ref v), some (.int many), none, some (.int turn), some (.int cell), none] (updO O v (.lst [.lst (cells.map .int), .int (turn + 1), .int rest])) := by
  unfold tDraw2T
  have hv : ∀ m, (updO O v m) v = some m := fun m => updO_same
  have nz : many ≠ 0 := by omega
  have fdm : ∀ i : Int, CFd i many := fun i => .inl ⟨nz, by omega⟩
  have p10 : CPow 10 18 := ⟨by decide, by decide, by decide⟩
  have e10 : (10 : Int) ^ Int.toNat 18 = 1000000000000000000 := by decide
  walk_at "dx"
  simp only [fIx, ixD, items, hv, Option.bind_some, atI_0, atI_1, atI_2]
  walk_at "df"
  simp only [List.length_map]
  have tail := mix_ok A0 B0 M1 A1 B1 M2 B2 A2 B3 M3 hA0 hB0 hM1 hA1 hB1 hM2 hB2 hA2 hB3 hM3 (turn := turn) (cell := cell) (many := many) ht0 (by omega) hm0 (R := fun x => ∃ O2, Sub O2 (updO O v (MO.lst [D.lst (List.map D.int cells), D.int (turn + 1), D.int rest])) ∧ Q (.int x) O2) (fun x x0 x1 => ⟨_, Sub.refl _, q x _ x0 x1 ⟨cells, turn + 1, rest, rfl, hc, by omega, by omega, hr⟩⟩)
  cases hd1 : decide (turn < (cells.length : Int)) with
  | false => exact tail
  | true =>
    refine ⟨p10, ?_⟩
    simp only [e10]
    cases hd2 : decide ((1000000000000000000 : Int) ≤ if cell < 0 then -cell else cell) with
    | false => exact tail
    | true =>
      have h18 := of_decide_eq_true hd2
      refine ⟨p10, ?_⟩
      have h19 : 0 ≤ (2 : Int) * ((if cell < 0 then -cell else cell) - 1000000000000000000) := by omega
      simp only [updO_same, List.length_cons, List.length_nil, ixN_0, ixN_1, ixN_2, Nat.reduceAdd, Nat.zero_add, List.set_cons_zero, List.set_cons_succ, updO_upd]
      refine ⟨cm_small (by decide) (by decide), fdm _, nz, _, Sub.refl _, q _ _ (fm_lt hm0).1 (fm_lt hm0).2 ⟨cells, turn + 1, _, rfl, hc, by omega, by omega, fd_nn ?_ hm0⟩⟩
      split <;> omega
theorem rd_draw2 (A0 B0 M1 A1 B1 M2 B2 A2 B3 M3 : Int) (hA0 : 0 ≤ A0 ∧ A0 < 1000000) (hB0 : 0 ≤ B0 ∧ B0 < 1000000) (hM1 : 0 < M1 ∧ M1 < 4294967296) (hA1 : 0 ≤ A1 ∧ A1 < 1000000) (hB1 : 0 ≤ B1 ∧ B1 < 1000000) (hM2 : 0 < M2 ∧ M2 < 4294967296) (hB2 : 0 ≤ B2 ∧ B2 < 1000000) (hA2 : 0 ≤ A2 ∧ A2 < 1000000) (hB3 : 0 ≤ B3 ∧ B3 < 1000000) (hM3 : 0 < M3 ∧ M3 < 4294967296) : ∀ ds O Q E, sd_draw ds O Q E → tDraw2 A0 B0 M1 A1 B1 M2 B2 A2 B3 M3 (ends Q E) (dstart 6 ds) O := by
  intro ds O Q E h
  unfold sd_draw at h
  split at h
  · rename_i v many
    obtain ⟨t, m, hv, ⟨cells, turn, rest, rfl, hc, ht0, ht1, hr⟩, ht, hm0, hm1, q⟩ := h
    show tDraw2 A0 B0 M1 A1 B1 M2 B2 A2 B3 M3 (ends Q E) [some (.ref v), some (.int many), none, none, none, none] O
    unfold tDraw2
    have hu : ∀ m, (updO O v m) v = some m := fun m => updO_same
    have nz : many ≠ 0 := by omega
    have fdm : ∀ i : Int, CFd i many := fun i => .inl ⟨nz, by omega⟩
    walk_at "dx"
    simp only [fIx, ixD, items, hv, hu, Option.bind_some, atI_0, atI_1, atI_2, trkD]
    walk_at "df"
    cases hr0 : decide (0 < rest) with
    | true =>
      simp only [updO_same, List.length_cons, List.length_nil, ixN_0, ixN_1, ixN_2, Nat.reduceAdd, Nat.zero_add, hv, List.set_cons_zero, List.set_cons_succ]
      refine ⟨fdm _, nz, _, Sub.refl _, q _ _ (fm_lt hm0).1 (fm_lt hm0).2 ⟨cells, turn, rest.fdiv many, rfl, hc, ht0, by omega, fd_nn hr hm0⟩⟩
    | false =>
      simp only [hv, hu, updO_upd, List.length_cons, List.length_nil, ixN_0, ixN_1, ixN_2, List.set_cons_zero, List.set_cons_succ, atI_0, atI_1, atI_2, Option.bind_some, List.length_map, Nat.reduceAdd, Nat.zero_add]
      have next : ∀ cell : Int, tDraw2T M1 A1 B1 M2 B2 A2 B3 M3 (ends Q E) [some (.ref v), some (.int many), none, some (.int turn), some (.int cell), none] (updO O v (.lst [.lst (cells.map .int), .int (turn + 1), .int rest])) :=
        fun cell => rd_draw2T A0 B0 M1 A1 B1 M2 B2 A2 B3 M3 hA0 hB0 hM1 hA1 hB1 hM2 hB2 hA2 hB3 hM3 (t := t) hc ht0 ht1 ht hm0 hm1 hr q
      refine ⟨cm_small (by omega) (by omega), ?_⟩
      refine fNe_lst cInt (by decide) (xs := cells) (ys := []) ?_
      cases cells with
      | nil => exact next _
      | cons c0 cs =>
        generalize hcells : c0 :: cs = cells at *
        have hne : 0 < cells.length := by rw [← hcells]; exact Nat.succ_pos _
        have hne2 : decide (cells = []) = false := by rw [← hcells]; simp
        clear hcells
        rw [hne2]
        have hln : (0 : Int) < (cells.length : Int) := by omega
        obtain ⟨b1, b2⟩ := fm_lt (i := turn) hln
        obtain ⟨k, hk⟩ := Int.eq_ofNat_of_zero_le b1
        have hk2 : k < cells.length := by omega
        have ec : atI (cells.map D.int) (turn.fmod (cells.length : Int)) = some (.int cells[k]) := by
          rw [hk]
          refine atI_nat ?_
          rw [List.getElem?_map, List.getElem?_eq_getElem hk2]
          rfl
        have el : Option.map List.length (some (List.map D.int cells)) = some cells.length := by simp
        simp only [Bool.not_false, el, ec, Option.bind_some, Option.map_some, List.length_map, lenD_lst]
        exact ⟨by omega, next _⟩
  · exact h.elim
def tDraw3T (M1 A1 B1 M2 B2 A2 B3 M3 : Int) : TDS :=
    (dSeq (dIfS (dAnd (dTst (dBin fLt (dVar 3) (dCB fLen (dCons (dBin fIx (dVar 0) (dC (.int 0))) dNil)))) (dTst (dBin fGe (dCB fAbs (dCons (dVar 4) dNil)) (dBin fPow (dC (.int 10)) (dC (.int 18))))))
    (dSeq (dAsg (dBin fAdd (dBin fMul (dC (.int 2)) (dBin fSub (dCB fAbs (dCons (dVar 4) dNil)) (dBin fPow (dC (.int 10)) (dC (.int 18))))) (dCB fInt (dCons (dBin fLt (dVar 4) (dC (.int 0))) dNil))) (gN 2))
    (dSeq (dSetIx (dBin fFd (dCB fInt (dCons (dVar 2) dNil)) (dVar 1)) (dVar 0) (dC (.int 2)))
    (dRet (dBin fMod (dCB fInt (dCons (dVar 2) dNil)) (dVar 1)))))
    dNext)
    (dSeq (dAsg (dBin fMod (dCB fInt (dCons (dBin fPow (dBin fAdd (dBin fAdd (dBin fMod (dCB fInt (dCons (dVar 4) dNil)) (dC (.int M1))) (dBin fMul (dC (.int A1)) (dVar 3))) (dC (.int B1))) (dC (.int 5))) dNil)) (dC (.int M2))) (gN 5))
    (dSeq (dAsg (dBin fMod (dCB fInt (dCons (dBin fPow (dBin fAdd (dBin fAdd (dBin fMul (dVar 5) (dBin fAdd (dBin fMul (dC (.int 2)) (dVar 3)) (dC (.int B2)))) (dBin fMul (dBin fMul (dC (.int A2)) (dVar 3)) (dVar 3))) (dC (.int B3))) (dC (.int 3))) dNil)) (dC (.int M3))) (gN 5))
    (dRet (dBin fMod (dCB fInt (dCons (dBin fFd (dVar 5) (dC (.int 64))) dNil)) (dVar 1))))))
def tDraw3 (A0 B0 M1 A1 B1 M2 B2 A2 B3 M3 : Int) : TDS :=
    (dSeq (dIfS (dTst (dBin fGt (dBin fIx (dVar 0) (dC (.int 2))) (dC (.int 0))))
    (dSeq (dAsg (dCB fInt (dCons (dBin fIx (dVar 0) (dC (.int 2))) dNil)) (gN 2))
    (dSeq (dSetIx (dBin fFd (dVar 2) (dVar 1)) (dVar 0) (dC (.int 2)))
    (dRet (dBin fMod (dCB fInt (dCons (dVar 2) dNil)) (dVar 1)))))
    dNext)
    (dSeq (dAsg (dBin fIx (dVar 0) (dC (.int 1))) (gN 3))
    (dSeq (dSetIx (dBin fAdd (dVar 3) (dC (.int 1))) (dVar 0) (dC (.int 1)))
    (dSeq (dAsg (dBin fAdd (dBin fMul (dC (.int A0)) (dVar 3)) (dC (.int B0))) (gN 4))
    (dSeq (dIfS (dTst (dBin fNe (dBin fIx (dVar 0) (dC (.int 0))) (dLst dNil)))
    (dAsg (dBin fIx (dBin fIx (dVar 0) (dC (.int 0))) (dBin fMod (dCB fInt (dCons (dVar 3) dNil)) (dCB fLen (dCons (dBin fIx (dVar 0) (dC (.int 0))) dNil)))) (gN 4))
    dNext)
    (tDraw3T M1 A1 B1 M2 B2 A2 B3 M3))))))
theorem rd_draw3T (A0 B0 M1 A1 B1 M2 B2 A2 B3 M3 : Int) (hA0 : 0 ≤ A0 ∧ A0 < 1000000) (hB0 : 0 ≤ B0 ∧ B0 < 1000000) (hM1 : 0 < M1 ∧ M1 < 4294967296) (hA1 : 0 ≤ A1 ∧ A1 < 1000000) (hB1 : 0 ≤ B1 ∧ B1 < 1000000) (hM2 : 0 < M2 ∧ M2 < 4294967296) (hB2 : 0 ≤ B2 ∧ B2 < 1000000) (hA2 : 0 ≤ A2 ∧ A2 < 1000000) (hB3 : 0 ≤ B3 ∧ B3 < 1000000) (hM3 : 0 < M3 ∧ M3 < 4294967296) {O : DH} {v : Addr} {t many turn cell : Int} {rest : Int} {cells : List Int} {Q : QD} {E : XD} (hc : cells.length ≤ 100000) (ht0 : 0 ≤ turn) (ht1 : turn ≤ t) (ht : t < 1000000) (hm0 : 0 < many) (hm1 : many < 1073741824) (hr : 0 ≤ rest)
    (q : ∀ r m', 0 ≤ r → r < many → VesM (t + 1) m' → Q (.int r) (updO O v m')) :
    tDraw3T M1 A1 B1 M2 B2 A2 B3 M3 (ends Q E) [some (.ref v), some (.int many), none, some (.int turn), some (.int cell), none] (updO O v (.lst [.lst (cells.map .int), .int (turn + 1), .int rest])) := by
  unfold tDraw3T
  have hv : ∀ m, (updO O v m) v = some m := fun m => updO_same
  have nz : many ≠ 0 := by omega
  have fdm : ∀ i : Int, CFd i many := fun i => .inl ⟨nz, by omega⟩
  have p10 : CPow 10 18 := ⟨by decide, by decide, by decide⟩
  have e10 : (10 : Int) ^ Int.toNat 18 = 1000000000000000000 := by decide
  walk_at "dx"
  simp only [fIx, ixD, items, hv, Option.bind_some, atI_0, atI_1, atI_2]
  walk_at "df"
  simp only [List.length_map]
  have tail := mix_ok A0 B0 M1 A1 B1 M2 B2 A2 B3 M3 hA0 hB0 hM1 hA1 hB1 hM2 hB2 hA2 hB3 hM3 (turn := turn) (cell := cell) (many := many) ht0 (by omega) hm0 (R := fun x => ∃ O2, Sub O2 (updO O v (MO.lst [D.lst (List.map D.int cells), D.int (turn + 1), D.int rest])) ∧ Q (.int x) O2) (fun x x0 x1 => ⟨_, Sub.refl _, q x _ x0 x1 ⟨cells, turn + 1, rest, rfl, hc, by omega, by omega, hr⟩⟩)
  cases hd1 : decide (turn < (cells.length : Int)) with
  | false => exact tail
  | true =>
    refine ⟨p10, ?_⟩
    simp only [e10]
    cases hd2 : decide ((1000000000000000000 : Int) ≤ if cell < 0 then -cell else cell) with
    | false => exact tail
    | true =>
      have h18 := of_decide_eq_true hd2
      refine ⟨p10, ?_⟩
      have h19 : 0 ≤ (2 : Int) * ((if cell < 0 then -cell else cell) - 1000000000000000000) := by omega
      simp only [updO_same, List.length_cons, List.length_nil, ixN_0, ixN_1, ixN_2, Nat.reduceAdd, Nat.zero_add, List.set_cons_zero, List.set_cons_succ, updO_upd]
      refine ⟨cm_small (by decide) (by decide), fdm _, nz, _, Sub.refl _, q _ _ (fm_lt hm0).1 (fm_lt hm0).2 ⟨cells, turn + 1, _, rfl, hc, by omega, by omega, fd_nn ?_ hm0⟩⟩
      split <;> omega
theorem rd_draw3 (A0 B0 M1 A1 B1 M2 B2 A2 B3 M3 : Int) (hA0 : 0 ≤ A0 ∧ A0 < 1000000) (hB0 : 0 ≤ B0 ∧ B0 < 1000000) (hM1 : 0 < M1 ∧ M1 < 4294967296) (hA1 : 0 ≤ A1 ∧ A1 < 1000000) (hB1 : 0 ≤ B1 ∧ B1 < 1000000) (hM2 : 0 < M2 ∧ M2 < 4294967296) (hB2 : 0 ≤ B2 ∧ B2 < 1000000) (hA2 : 0 ≤ A2 ∧ A2 < 1000000) (hB3 : 0 ≤ B3 ∧ B3 < 1000000) (hM3 : 0 < M3 ∧ M3 < 4294967296) : ∀ ds O Q E, sd_draw ds O Q E → tDraw3 A0 B0 M1 A1 B1 M2 B2 A2 B3 M3 (ends Q E) (dstart 6 ds) O := by
  intro ds O Q E h
  unfold sd_draw at h
  split at h
  · rename_i v many
    obtain ⟨t, m, hv, ⟨cells, turn, rest, rfl, hc, ht0, ht1, hr⟩, ht, hm0, hm1, q⟩ := h
    show tDraw3 A0 B0 M1 A1 B1 M2 B2 A2 B3 M3 (ends Q E) [some (.ref v), some (.int many), none, none, none, none] O
    unfold tDraw3
    have hu : ∀ m, (updO O v m) v = some m := fun m => updO_same
    have nz : many ≠ 0 := by omega
    have fdm : ∀ i : Int, CFd i many := fun i => .inl ⟨nz, by omega⟩
    walk_at "dx"
    simp only [fIx, ixD, items, hv, hu, Option.bind_some, atI_0, atI_1, atI_2, trkD]
    walk_at "df"
    cases hr0 : decide (0 < rest) with
    | true =>
      simp only [updO_same, List.length_cons, List.length_nil, ixN_0, ixN_1, ixN_2, Nat.reduceAdd, Nat.zero_add, hv, List.set_cons_zero, List.set_cons_succ]
      refine ⟨fdm _, nz, _, Sub.refl _, q _ _ (fm_lt hm0).1 (fm_lt hm0).2 ⟨cells, turn, rest.fdiv many, rfl, hc, ht0, by omega, fd_nn hr hm0⟩⟩
    | false =>
      simp only [hv, hu, updO_upd, List.length_cons, List.length_nil, ixN_0, ixN_1, ixN_2, List.set_cons_zero, List.set_cons_succ, atI_0, atI_1, atI_2, Option.bind_some, List.length_map, Nat.reduceAdd, Nat.zero_add]
      have next : ∀ cell : Int, tDraw3T M1 A1 B1 M2 B2 A2 B3 M3 (ends Q E) [some (.ref v), some (.int many), none, some (.int turn), some (.int cell), none] (updO O v (.lst [.lst (cells.map .int), .int (turn + 1), .int rest])) :=
        fun cell => rd_draw3T A0 B0 M1 A1 B1 M2 B2 A2 B3 M3 hA0 hB0 hM1 hA1 hB1 hM2 hB2 hA2 hB3 hM3 (t := t) hc ht0 ht1 ht hm0 hm1 hr q
      refine ⟨cm_small (by omega) (by omega), ?_⟩
      refine fNe_lst cInt (by decide) (xs := cells) (ys := []) ?_
      cases cells with
      | nil => exact next _
      | cons c0 cs =>
        generalize hcells : c0 :: cs = cells at *
        have hne : 0 < cells.length := by rw [← hcells]; exact Nat.succ_pos _
        have hne2 : decide (cells = []) = false := by rw [← hcells]; simp
        clear hcells
        rw [hne2]
        have hln : (0 : Int) < (cells.length : Int) := by omega
        obtain ⟨b1, b2⟩ := fm_lt (i := turn) hln
        obtain ⟨k, hk⟩ := Int.eq_ofNat_of_zero_le b1
        have hk2 : k < cells.length := by omega
        have ec : atI (cells.map D.int) (turn.fmod (cells.length : Int)) = some (.int cells[k]) := by
          rw [hk]
          refine atI_nat ?_
          rw [List.getElem?_map, List.getElem?_eq_getElem hk2]
          rfl
        have el : Option.map List.length (some (List.map D.int cells)) = some cells.length := by simp
        simp only [Bool.not_false, el, ec, Option.bind_some, Option.map_some, List.length_map, lenD_lst]
        exact ⟨by omega, next _⟩
  · exact h.elim
def tDraw4T (M1 A1 B1 M2 B2 A2 B3 M3 : Int) : TDS :=
    (dSeq (dIfS (dAnd (dTst (dBin fLt (dVar 3) (dCB fLen (dCons (dBin fIx (dVar 0) (dC (.int 0))) dNil)))) (dTst (dBin fGe (dCB fAbs (dCons (dVar 4) dNil)) (dBin fPow (dC (.int 10)) (dC (.int 18))))))
    (dSeq (dAsg (dBin fAdd (dBin fMul (dC (.int 2)) (dBin fSub (dCB fAbs (dCons (dVar 4) dNil)) (dBin fPow (dC (.int 10)) (dC (.int 18))))) (dCB fInt (dCons (dBin fLt (dVar 4) (dC (.int 0))) dNil))) (gN 2))
    (dSeq (dSetIx (dBin fFd (dVar 2) (dVar 1)) (dVar 0) (dC (.int 2)))
    (dRet (dBin fMod (dCB fInt (dCons (dVar 2) dNil)) (dVar 1)))))
    dNext)
    (dSeq (dAsg (dBin fMod (dCB fInt (dCons (dBin fPow (dBin fAdd (dBin fAdd (dBin fMod (dCB fInt (dCons (dVar 4) dNil)) (dC (.int M1))) (dBin fMul (dC (.int A1)) (dVar 3))) (dC (.int B1))) (dC (.int 5))) dNil)) (dC (.int M2))) (gN 5))
    (dSeq (dAsg (dBin fMod (dCB fInt (dCons (dBin fPow (dBin fAdd (dBin fAdd (dBin fMul (dVar 5) (dBin fAdd (dBin fMul (dC (.int 2)) (dVar 3)) (dC (.int B2)))) (dBin fMul (dBin fMul (dC (.int A2)) (dVar 3)) (dVar 3))) (dC (.int B3))) (dC (.int 3))) dNil)) (dC (.int M3))) (gN 5))
    (dRet (dBin fMod (dCB fInt (dCons (dBin fFd (dVar 5) (dC (.int 64))) dNil)) (dVar 1))))))
def tDraw4 (A0 B0 M1 A1 B1 M2 B2 A2 B3 M3 : Int) : TDS :=
    (dSeq (dIfS (dTst (dBin fGt (dBin fIx (dVar 0) (dC (.int 2))) (dC (.int 0))))
    (dSeq (dAsg (dCB fInt (dCons (dBin fIx (dVar 0) (dC (.int 2))) dNil)) (gN 2))
    (dSeq (dSetIx (dBin fFd (dVar 2) (dVar 1)) (dVar 0) (dC (.int 2)))
    (dRet (dBin fMod (dCB fInt (dCons (dVar 2) dNil)) (dVar 1)))))
    dNext)
    (dSeq (dAsg (dBin fIx (dVar 0) (dC (.int 1))) (gN 3))
    (dSeq (dSetIx (dBin fAdd (dVar 3) (dC (.int 1))) (dVar 0) (dC (.int 1)))
    (dSeq (dAsg (dBin fAdd (dBin fMul (dC (.int A0)) (dVar 3)) (dC (.int B0))) (gN 4))
    (dSeq (dIfS (dTst (dBin fNe (dBin fIx (dVar 0) (dC (.int 0))) (dLst dNil)))
    (dAsg (dBin fIx (dBin fIx (dVar 0) (dC (.int 0))) (dBin fMod (dCB fInt (dCons (dVar 3) dNil)) (dCB fLen (dCons (dBin fIx (dVar 0) (dC (.int 0))) dNil)))) (gN 4))
    dNext)
    (tDraw4T M1 A1 B1 M2 B2 A2 B3 M3))))))
theorem rd_draw4T (A0 B0 M1 A1 B1 M2 B2 A2 B3 M3 : Int) (hA0 : 0 ≤ A0 ∧ A0 < 1000000) (hB0 : 0 ≤ B0 ∧ B0 < 1000000) (hM1 : 0 < M1 ∧ M1 < 4294967296) (hA1 : 0 ≤ A1 ∧ A1 < 1000000) (hB1 : 0 ≤ B1 ∧ B1 < 1000000) (hM2 : 0 < M2 ∧ M2 < 4294967296) (hB2 : 0 ≤ B2 ∧ B2 < 1000000) (hA2 : 0 ≤ A2 ∧ A2 < 1000000) (hB3 : 0 ≤ B3 ∧ B3 < 1000000) (hM3 : 0 < M3 ∧ M3 < 4294967296) {O : DH} {v : Addr} {t many turn cell : Int} {rest : Int} {cells : List Int} {Q : QD} {E : XD} (hc : cells.length ≤ 100000) (ht0 : 0 ≤ turn) (ht1 : turn ≤ t) (ht : t < 1000000) (hm0 : 0 < many) (hm1 : many < 1073741824) (hr : 0 ≤ rest)
    (q : ∀ r m', 0 ≤ r → r < many → VesM (t + 1) m' → Q (.int r) (updO O v m')) :
    tDraw4T M1 A1 B1 M2 B2 A2 B3 M3 (ends Q E) [some (.ref v), some (.int many), none, some (.int turn), some (.int cell), none] (updO O v (.lst [.lst (cells.map .int), .int (turn + 1), .int rest])) := by
  unfold tDraw4T
  have hv : ∀ m, (updO O v m) v = some m := fun m => updO_same
  have nz : many ≠ 0 := by omega
  have fdm : ∀ i : Int, CFd i many := fun i => .inl ⟨nz, by omega⟩
  have p10 : CPow 10 18 := ⟨by decide, by decide, by decide⟩
  have e10 : (10 : Int) ^ Int.toNat 18 = 1000000000000000000 := by decide
  walk_at "dx"
  simp only [fIx, ixD, items, hv, Option.bind_some, atI_0, atI_1, atI_2]
  walk_at "df"
  simp only [List.length_map]
  have tail := mix_ok A0 B0 M1 A1 B1 M2 B2 A2 B3 M3 hA0 hB0 hM1 hA1 hB1 hM2 hB2 hA2 hB3 hM3 (turn := turn) (cell := cell) (many := many) ht0 (by omega) hm0 (R := fun x => ∃ O2, Sub O2 (updO O v (MO.lst [D.lst (List.map D.int cells), D.int (turn + 1), D.int rest])) ∧ Q (.int x) O2) (fun x x0 x1 => ⟨_, Sub.refl _, q x _ x0 x1 ⟨cells, turn + 1, rest, rfl, hc, by omega, by omega, hr⟩⟩)
  cases hd1 : decide (turn < (cells.length : Int)) with
  | false => exact tail
  | true =>
    refine ⟨p10, ?_⟩
    simp only [e10]
    cases hd2 : decide ((1000000000000000000 : Int) ≤ if cell < 0 then -cell else cell) with
    | false => exact tail
    | true =>
      have h18 := of_decide_eq_true hd2
      refine ⟨p10, ?_⟩
      have h19 : 0 ≤ (2 : Int) * ((if cell < 0 then -cell else cell) - 1000000000000000000) := by omega
      simp only [updO_same, List.length_cons, List.length_nil, ixN_0, ixN_1, ixN_2, Nat.reduceAdd, Nat.zero_add, List.set_cons_zero, List.set_cons_succ, updO_upd]
      refine ⟨cm_small (by decide) (by decide), fdm _, nz, _, Sub.refl _, q _ _ (fm_lt hm0).1 (fm_lt hm0).2 ⟨cells, turn + 1, _, rfl, hc, by omega, by omega, fd_nn ?_ hm0⟩⟩
      split <;> omega
theorem rd_draw4 (A0 B0 M1 A1 B1 M2 B2 A2 B3 M3 : Int) (hA0 : 0 ≤ A0 ∧ A0 < 1000000) (hB0 : 0 ≤ B0 ∧ B0 < 1000000) (hM1 : 0 < M1 ∧ M1 < 4294967296) (hA1 : 0 ≤ A1 ∧ A1 < 1000000) (hB1 : 0 ≤ B1 ∧ B1 < 1000000) (hM2 : 0 < M2 ∧ M2 < 4294967296) (hB2 : 0 ≤ B2 ∧ B2 < 1000000) (hA2 : 0 ≤ A2 ∧ A2 < 1000000) (hB3 : 0 ≤ B3 ∧ B3 < 1000000) (hM3 : 0 < M3 ∧ M3 < 4294967296) : ∀ ds O Q E, sd_draw ds O Q E → tDraw4 A0 B0 M1 A1 B1 M2 B2 A2 B3 M3 (ends Q E) (dstart 6 ds) O := by
  intro ds O Q E h
  unfold sd_draw at h
  split at h
  · rename_i v many
    obtain ⟨t, m, hv, ⟨cells, turn, rest, rfl, hc, ht0, ht1, hr⟩, ht, hm0, hm1, q⟩ := h
    show tDraw4 A0 B0 M1 A1 B1 M2 B2 A2 B3 M3 (ends Q E) [some (.ref v), some (.int many), none, none, none, none] O
    unfold tDraw4
    have hu : ∀ m, (updO O v m) v = some m := fun m => updO_same
    have nz : many ≠ 0 := by omega
    have fdm : ∀ i : Int, CFd i many := fun i => .inl ⟨nz, by omega⟩
    walk_at "dx"
    simp only [fIx, ixD, items, hv, hu, Option.bind_some, atI_0, atI_1, atI_2, trkD]
    walk_at "df"
    cases hr0 : decide (0 < rest) with
    | true =>
      simp only [updO_same, List.length_cons, List.length_nil, ixN_0, ixN_1, ixN_2, Nat.reduceAdd, Nat.zero_add, hv, List.set_cons_zero, List.set_cons_succ]
      refine ⟨fdm _, nz, _, Sub.refl _, q _ _ (fm_lt hm0).1 (fm_lt hm0).2 ⟨cells, turn, rest.fdiv many, rfl, hc, ht0, by omega, fd_nn hr hm0⟩⟩
    | false =>
      simp only [hv, hu, updO_upd, List.length_cons, List.length_nil, ixN_0, ixN_1, ixN_2, List.set_cons_zero, List.set_cons_succ, atI_0, atI_1, atI_2, Option.bind_some, List.length_map, Nat.reduceAdd, Nat.zero_add]
      have next : ∀ cell : Int, tDraw4T M1 A1 B1 M2 B2 A2 B3 M3 (ends Q E) [some (.ref v), some (.int many), none, some (.int turn), some (.int cell), none] (updO O v (.lst [.lst (cells.map .int), .int (turn + 1), .int rest])) :=
        fun cell => rd_draw4T A0 B0 M1 A1 B1 M2 B2 A2 B3 M3 hA0 hB0 hM1 hA1 hB1 hM2 hB2 hA2 hB3 hM3 (t := t) hc ht0 ht1 ht hm0 hm1 hr q
      refine ⟨cm_small (by omega) (by omega), ?_⟩
      refine fNe_lst cInt (by decide) (xs := cells) (ys := []) ?_
      cases cells with
      | nil => exact next _
      | cons c0 cs =>
        generalize hcells : c0 :: cs = cells at *
        have hne : 0 < cells.length := by rw [← hcells]; exact Nat.succ_pos _
        have hne2 : decide (cells = []) = false := by rw [← hcells]; simp
        clear hcells
        rw [hne2]
        have hln : (0 : Int) < (cells.length : Int) := by omega
        obtain ⟨b1, b2⟩ := fm_lt (i := turn) hln
        obtain ⟨k, hk⟩ := Int.eq_ofNat_of_zero_le b1
        have hk2 : k < cells.length := by omega
        have ec : atI (cells.map D.int) (turn.fmod (cells.length : Int)) = some (.int cells[k]) := by
          rw [hk]
          refine atI_nat ?_
          rw [List.getElem?_map, List.getElem?_eq_getElem hk2]
          rfl
        have el : Option.map List.length (some (List.map D.int cells)) = some cells.length := by simp
        simp only [Bool.not_false, el, ec, Option.bind_some, Option.map_some, List.length_map, lenD_lst]
        exact ⟨by omega, next _⟩
  · exact h.elim
def tDraw5T (M1 A1 B1 M2 B2 A2 B3 M3 : Int) : TDS :=
    (dSeq (dIfS (dAnd (dTst (dBin fLt (dVar 3) (dCB fLen (dCons (dBin fIx (dVar 0) (dC (.int 0))) dNil)))) (dTst (dBin fGt (dCB fAbs (dCons (dVar 4) dNil)) (dBin fPow (dC (.int 10)) (dC (.int 18))))))
    (dSeq (dAsg (dBin fSub (dCB fAbs (dCons (dVar 4) dNil)) (dBin fPow (dC (.int 10)) (dC (.int 18)))) (gN 2))
    (dSeq (dSetIx (dBin fFd (dCB fInt (dCons (dVar 2) dNil)) (dVar 1)) (dVar 0) (dC (.int 2)))
    (dRet (dBin fMod (dCB fInt (dCons (dVar 2) dNil)) (dVar 1)))))
    dNext)
    (dSeq (dAsg (dBin fMod (dCB fInt (dCons (dBin fPow (dBin fAdd (dBin fAdd (dBin fMod (dCB fInt (dCons (dVar 4) dNil)) (dC (.int M1))) (dBin fMul (dC (.int A1)) (dVar 3))) (dC (.int B1))) (dC (.int 5))) dNil)) (dC (.int M2))) (gN 5))
    (dSeq (dAsg (dBin fMod (dCB fInt (dCons (dBin fPow (dBin fAdd (dBin fAdd (dBin fMul (dVar 5) (dBin fAdd (dBin fMul (dC (.int 2)) (dVar 3)) (dC (.int B2)))) (dBin fMul (dBin fMul (dC (.int A2)) (dVar 3)) (dVar 3))) (dC (.int B3))) (dC (.int 3))) dNil)) (dC (.int M3))) (gN 5))
    (dRet (dBin fMod (dCB fInt (dCons (dBin fFd (dVar 5) (dC (.int 64))) dNil)) (dVar 1))))))
def tDraw5 (A0 B0 M1 A1 B1 M2 B2 A2 B3 M3 : Int) : TDS :=
    (dSeq (dIfS (dTst (dBin fGt (dBin fIx (dVar 0) (dC (.int 2))) (dC (.int 0))))
    (dSeq (dAsg (dCB fInt (dCons (dBin fIx (dVar 0) (dC (.int 2))) dNil)) (gN 2))
    (dSeq (dSetIx (dBin fFd (dVar 2) (dVar 1)) (dVar 0) (dC (.int 2)))
    (dRet (dBin fMod (dCB fInt (dCons (dVar 2) dNil)) (dVar 1)))))
    dNext)
    (dSeq (dAsg (dBin fIx (dVar 0) (dC (.int 1))) (gN 3))
    (dSeq (dSetIx (dBin fAdd (dVar 3) (dC (.int 1))) (dVar 0) (dC (.int 1)))
    (dSeq (dAsg (dBin fAdd (dBin fMul (dC (.int A0)) (dVar 3)) (dC (.int B0))) (gN 4))
    (dSeq (dIfS (dTst (dBin fNe (dBin fIx (dVar 0) (dC (.int 0))) (dLst dNil)))
    (dAsg (dBin fIx (dBin fIx (dVar 0) (dC (.int 0))) (dBin fMod (dCB fInt (dCons (dVar 3) dNil)) (dCB fLen (dCons (dBin fIx (dVar 0) (dC (.int 0))) dNil)))) (gN 4))
    dNext)
    (tDraw5T M1 A1 B1 M2 B2 A2 B3 M3))))))
theorem rd_draw5T (A0 B0 M1 A1 B1 M2 B2 A2 B3 M3 : Int) (hA0 : 0 ≤ A0 ∧ A0 < 1000000) (hB0 : 0 ≤ B0 ∧ B0 < 1000000) (hM1 : 0 < M1 ∧ M1 < 4294967296) (hA1 : 0 ≤ A1 ∧ A1 < 1000000) (hB1 : 0 ≤ B1 ∧ B1 < 1000000) (hM2 : 0 < M2 ∧ M2 < 4294967296) (hB2 : 0 ≤ B2 ∧ B2 < 1000000) (hA2 : 0 ≤ A2 ∧ A2 < 1000000) (hB3 : 0 ≤ B3 ∧ B3 < 1000000) (hM3 : 0 < M3 ∧ M3 < 4294967296) {O : DH} {v : Addr} {t many turn cell : Int} {rest : Int} {cells : List Int} {Q : QD} {E : XD} (hc : cells.length ≤ 100000) (ht0 : 0 ≤ turn) (ht1 : turn ≤ t) (ht : t < 1000000) (hm0 : 0 < many) (hm1 : many < 1073741824) (hr : 0 ≤ rest)
    (q : ∀ r m', 0 ≤ r → r < many → VesM (t + 1) m' → Q (.int r) (updO O v m')) :
    tDraw5T M1 A1 B1 M2 B2 A2 B3 M3 (ends Q E) [some (.ref v), some (.int many), none, some (.int turn), some (.int cell), none] (updO O v (.lst [.lst (cells.map .int), .int (turn + 1), .int rest])) := by
  unfold tDraw5T
  have hv : ∀ m, (updO O v m) v = some m := fun m => updO_same
  have nz : many ≠ 0 := by omega
  have fdm : ∀ i : Int, CFd i many := fun i => .inl ⟨nz, by omega⟩
  have p10 : CPow 10 18 := ⟨by decide, by decide, by decide⟩
  have e10 : (10 : Int) ^ Int.toNat 18 = 1000000000000000000 := by decide
  walk_at "dx"
  simp only [fIx, ixD, items, hv, Option.bind_some, atI_0, atI_1, atI_2]
  walk_at "df"
  simp only [List.length_map]
  have tail := mix_ok A0 B0 M1 A1 B1 M2 B2 A2 B3 M3 hA0 hB0 hM1 hA1 hB1 hM2 hB2 hA2 hB3 hM3 (turn := turn) (cell := cell) (many := many) ht0 (by omega) hm0 (R := fun x => ∃ O2, Sub O2 (updO O v (MO.lst [D.lst (List.map D.int cells), D.int (turn + 1), D.int rest])) ∧ Q (.int x) O2) (fun x x0 x1 => ⟨_, Sub.refl _, q x _ x0 x1 ⟨cells, turn + 1, rest, rfl, hc, by omega, by omega, hr⟩⟩)
  cases hd1 : decide (turn < (cells.length : Int)) with
  | false => exact tail
  | true =>
    refine ⟨p10, ?_⟩
    simp only [e10]
    cases hd2 : decide ((1000000000000000000 : Int) < if cell < 0 then -cell else cell) with
    | false => exact tail
    | true =>
      have h18 := of_decide_eq_true hd2
      refine ⟨p10, ?_⟩
      have h19 : 0 ≤ (2 : Int) * ((if cell < 0 then -cell else cell) - 1000000000000000000) := by omega
      simp only [updO_same, List.length_cons, List.length_nil, ixN_0, ixN_1, ixN_2, Nat.reduceAdd, Nat.zero_add, List.set_cons_zero, List.set_cons_succ, updO_upd]
      refine ⟨fdm _, nz, _, Sub.refl _, q _ _ (fm_lt hm0).1 (fm_lt hm0).2 ⟨cells, turn + 1, _, rfl, hc, by omega, by omega, fd_nn ?_ hm0⟩⟩
      omega
theorem rd_draw5 (A0 B0 M1 A1 B1 M2 B2 A2 B3 M3 : Int) (hA0 : 0 ≤ A0 ∧ A0 < 1000000) (hB0 : 0 ≤ B0 ∧ B0 < 1000000) (hM1 : 0 < M1 ∧ M1 < 4294967296) (hA1 : 0 ≤ A1 ∧ A1 < 1000000) (hB1 : 0 ≤ B1 ∧ B1 < 1000000) (hM2 : 0 < M2 ∧ M2 < 4294967296) (hB2 : 0 ≤ B2 ∧ B2 < 1000000) (hA2 : 0 ≤ A2 ∧ A2 < 1000000) (hB3 : 0 ≤ B3 ∧ B3 < 1000000) (hM3 : 0 < M3 ∧ M3 < 4294967296) : ∀ ds O Q E, sd_draw ds O Q E → tDraw5 A0 B0 M1 A1 B1 M2 B2 A2 B3 M3 (ends Q E) (dstart 6 ds) O := by
  intro ds O Q E h
  unfold sd_draw at h
  split at h
  · rename_i v many
    obtain ⟨t, m, hv, ⟨cells, turn, rest, rfl, hc, ht0, ht1, hr⟩, ht, hm0, hm1, q⟩ := h
    show tDraw5 A0 B0 M1 A1 B1 M2 B2 A2 B3 M3 (ends Q E) [some (.ref v), some (.int many), none, none, none, none] O
    unfold tDraw5
    have hu : ∀ m, (updO O v m) v = some m := fun m => updO_same
    have nz : many ≠ 0 := by omega
    have fdm : ∀ i : Int, CFd i many := fun i => .inl ⟨nz, by omega⟩
    walk_at "dx"
    simp only [fIx, ixD, items, hv, hu, Option.bind_some, atI_0, atI_1, atI_2, trkD]
    walk_at "df"
    cases hr0 : decide (0 < rest) with
    | true =>
      simp only [updO_same, List.length_cons, List.length_nil, ixN_0, ixN_1, ixN_2, Nat.reduceAdd, Nat.zero_add, hv, List.set_cons_zero, List.set_cons_succ]
      refine ⟨fdm _, nz, _, Sub.refl _, q _ _ (fm_lt hm0).1 (fm_lt hm0).2 ⟨cells, turn, rest.fdiv many, rfl, hc, ht0, by omega, fd_nn hr hm0⟩⟩
    | false =>
      simp only [hv, hu, updO_upd, List.length_cons, List.length_nil, ixN_0, ixN_1, ixN_2, List.set_cons_zero, List.set_cons_succ, atI_0, atI_1, atI_2, Option.bind_some, List.length_map, Nat.reduceAdd, Nat.zero_add]
      have next : ∀ cell : Int, tDraw5T M1 A1 B1 M2 B2 A2 B3 M3 (ends Q E) [some (.ref v), some (.int many), none, some (.int turn), some (.int cell), none] (updO O v (.lst [.lst (cells.map .int), .int (turn + 1), .int rest])) :=
        fun cell => rd_draw5T A0 B0 M1 A1 B1 M2 B2 A2 B3 M3 hA0 hB0 hM1 hA1 hB1 hM2 hB2 hA2 hB3 hM3 (t := t) hc ht0 ht1 ht hm0 hm1 hr q
      refine ⟨cm_small (by omega) (by omega), ?_⟩
      refine fNe_lst cInt (by decide) (xs := cells) (ys := []) ?_
      cases cells with
      | nil => exact next _
      | cons c0 cs =>
        generalize hcells : c0 :: cs = cells at *
        have hne : 0 < cells.length := by rw [← hcells]; exact Nat.succ_pos _
        have hne2 : decide (cells = []) = false := by rw [← hcells]; simp
        clear hcells
        rw [hne2]
        have hln : (0 : Int) < (cells.length : Int) := by omega
        obtain ⟨b1, b2⟩ := fm_lt (i := turn) hln
        obtain ⟨k, hk⟩ := Int.eq_ofNat_of_zero_le b1
        have hk2 : k < cells.length := by omega
        have ec : atI (cells.map D.int) (turn.fmod (cells.length : Int)) = some (.int cells[k]) := by
          rw [hk]
          refine atI_nat ?_
          rw [List.getElem?_map, List.getElem?_eq_getElem hk2]
          rfl
        have el : Option.map List.length (some (List.map D.int cells)) = some cells.length := by simp
        simp only [Bool.not_false, el, ec, Option.bind_some, Option.map_some, List.length_map, lenD_lst]
        exact ⟨by omega, next _⟩
  · exact h.elim
end Dx
namespace Dx
open PySem L2
local macro_rules | `(tactic| walk_at "dx") => `(tactic| simp only [dVar, dC, dBin, dUn, dTst, dTru, dAnd, dOr, dNot, dAndV, dOrV, dNotV, dIf, dChain, dNil, dCons, dTup, dLst, dLstM, dDic0, dDic1, dNoP, dPart, dSl, dCB, dIsi, dIsiT, dNext, dSeq, dRet, dRetF, dRetN, dDrop, dIfS, dBreak, dCont, dAsg, gN, gTu, gCn, gNl, dPar, dSetIx, dApp, dISeq, dIRng1, dIRng2, dFor, dCall, dLc, dLcM, dYes, dwipe, ends, dRaise1, dRaise2, dSetFld, dFld, dTryAs, suiteE, dXf, dMake, dIsiC, dListM, dEqO, dMeth, dLc2,
  List.getElem?_cons_zero, List.getElem?_cons_succ, List.getElem?_nil, List.set_cons_zero, List.set_cons_succ, List.length_cons, List.length_nil, Nat.zero_add, Nat.reduceAdd, true_and])
local macro_rules | `(tactic| walk_at "df") => `(tactic| simp only [fAdd, fSub, fMul, fMod, fFd, fPow, fNeg, fLt, fLe, fGt, fGe, fI, fI0, fU, fIsN, fNotN, fIx, fSl, fLen, fInt, fAbs, fMax2, fMin2, fStr, fTuple, fList, fAll, fAny, fSum, fEq_ii, fNe_ii, fEq_ss, fNe_ss, fEq_bb, fNe_bb, atI_0, atI_1, atI_2, ixN_0, ixN_1, ixN_2, Option.bind_some, Option.map_some, shown?, D.py, D.pys, updO_upd, kindD_non, kindD_bl, kindD_int, kindD_str, kindD_lst, kindD_tup, kindD_dic, items_lst, items_tup, items_wl, itemsL_lst, itemsL_wl, trkD_lst, items_ref, itemsL_ref, trkD_ref, kindD_ref, lenD_lst, lenD_tup, lenD_wl, lenD_dic, lenD_ref, lenD_str, truth_non, truth_bl, truth_int, truth_str, truth_dic, truth_lst, truth_tup, truth_wl, truth_ref, keyD_int, keyD_str, noneD_non, noneD_bl, noneD_int, noneD_str, noneD_lst, noneD_tup, noneD_dic, noneD_ref, sz0, sz1, sz2, sz3, sz4, sz5, sz6, sz7, sz8, sz9, sz10, sz11, sz12, sz13, sz14, sz15, sz16, sz17, sz18, sz19, sz20, sz21, sz22, sz23, sz24, sz25, sz26, sz27, sz28, sz29, sz30, true_and, and_true])
/-- [list(x) for x in ds], all of it to be changed -/
theorem lc_copies {a : Addr} {i : Nat} {ρ : DEnv} {gd : DH → Prop} {Q : DH → Prop} {ds : List D} {O : DH} {es : D → List D} (hi : i < ρ.length) (hz : ds.length ≤ sizeLine) (ha : O a = none) (hg : ∀ O2, Sub O O2 → gd O2) (hk : ∀ d ∈ ds, Kd O d ∧ items O d = some (es d))
    (q : ∀ (bs : List Addr) (O2 : DH), bs.length = ds.length → Sub O O2 → O2 a = some (.lst (bs.map .ref)) → (∀ (k : Nat) (b : Addr), bs[k]? = some b → ∃ d, ds[k]? = some d ∧ O2 b = some (.lst (es d))) → (∀ b ∈ bs, O b = none ∧ b ≠ a) → bs.Nodup → Q O2) :
    lcGo a (gN i) dYes (dListM (dCons (dVar i) dNil)) ρ ENo gd (fun _ O2 => Q O2) ds [] (updO O a (.lst [])) := by
  refine lcGo_ind (fun k acc O' => ∃ bs : List Addr, acc = bs.map .ref ∧ bs.length = k ∧ Sub O O' ∧ O' a = some (.lst acc) ∧ (∀ (j : Nat) (b : Addr), bs[j]? = some b → ∃ d, ds[j]? = some d ∧ O' b = some (.lst (es d))) ∧ (∀ b ∈ bs, O b = none ∧ b ≠ a) ∧ bs.Nodup)
    (fun k acc O' j => by obtain ⟨_, _, _, s, _⟩ := j; exact hg O' s) ⟨[], rfl, rfl, Sub.new ha, updO_same, fun j b e => by simp at e, fun b hb => by simp at hb, List.nodup_nil⟩ (fun k d acc O' N hd hkl j n => ?_) fun acc O' j => ?_
  · obtain ⟨bs, rfl, hl, s, hA, hat, hfr, hnd⟩ := j
    have hdm : d ∈ ds := List.mem_of_getElem? hd
    obtain ⟨k1, k2⟩ := hk d hdm
    unfold lcTurn
    have hv : (ρ.set i (some d))[i]? = some (some d) := by rw [List.getElem?_set]; simp [hi]
    walk_at "dx"
    rw [hv]
    have e1 : items O' d = some (es d) := by rw [items_sub s k1]; exact k2
    simp only [e1]
    intro b hb
    have hba : b ≠ a := fun e => by rw [e, hA] at hb; cases hb
    have hOb : O b = none := by
      cases hh : O b with
      | none => rfl
      | some m => rw [s b m hh] at hb; cases hb
    have hnb : b ∉ bs := fun hm => by
      obtain ⟨j, hj⟩ := List.getElem?_of_mem hm
      obtain ⟨_, _, hx⟩ := hat j b hj
      rw [hb] at hx; cases hx
    refine ⟨by rw [updO_ne hba.symm]; exact hA, by rw [List.length_map]; omega, n _ _ ⟨bs ++ [b], by rw [List.map_append]; rfl, by rw [List.length_append, hl]; rfl, fun c m hc => ?_, updO_same, fun j c hc => ?_, fun c hc => ?_, ?_⟩⟩
    · have hca : c ≠ a := fun e => by rw [e, ha] at hc; cases hc
      have hcb : c ≠ b := fun e => by rw [e, hOb] at hc; cases hc
      rw [updO_ne hca, updO_ne hcb]
      exact s c m hc
    · by_cases hj : j < bs.length
      · rw [List.getElem?_append_left hj] at hc
        obtain ⟨d', h1, h2⟩ := hat j c hc
        have hcm : c ∈ bs := List.mem_of_getElem? hc
        refine ⟨d', h1, ?_⟩
        rw [updO_ne (hfr c hcm).2, updO_ne fun e => hnb (by rw [← e]; exact hcm)]
        exact h2
      · rw [List.getElem?_append_right (by omega)] at hc
        have hj0 : j - bs.length = 0 := by
          cases hh : j - bs.length with
          | zero => rfl
          | succ x => rw [hh] at hc; simp at hc
        rw [hj0] at hc
        have : b = c := by simpa using hc
        subst this
        have : j = k := by omega
        subst this
        exact ⟨d, hd, by rw [updO_ne hba, updO_same]⟩
    · rcases List.mem_append.mp hc with hc | hc
      · exact hfr c hc
      · rw [List.mem_singleton.mp hc]; exact ⟨hOb, hba⟩
    · rw [List.nodup_append]
      exact ⟨hnd, by simp, fun x hx y hy e => by rw [List.mem_singleton.mp hy] at e; subst e; exact hnb hx⟩
  · obtain ⟨bs, rfl, hl, s, hA, hat, hfr, hnd⟩ := j
    exact q bs O' hl s hA hat hfr hnd
end Dx
namespace Lw
open PySem L2 Dx
/-! ### the text by places (printed by wip/gen/gen.py) -/
def top (i : Nat) : Stmt := PySem.Challenge.pw_everyprompt_k87_notebooks_kept_and_refus.main.body.getD i (.Pass ⟨0, 0, 0, 0⟩)
/-- what the top leaves -/
structure Facts (K : PySem.W.Frag) (mg : Str → Option Value) : Prop where
  z_abs : mg "abs" = none
  z_all : mg "all" = none
  z_any : mg "any" = none
  z_bool : mg "bool" = none
  z_int : mg "int" = none
  z_isinstance : mg "isinstance" = none
  z_len : mg "len" = none
  z_list : mg "list" = none
  z_range : mg "range" = none
  z_tuple : mg "tuple" = none
  c_MOST_LETTERS : ∃ t, mg "MOST_LETTERS" = some (.int 4 t)
  c_MOST_PAGES : ∃ t, mg "MOST_PAGES" = some (.int 4 t)
  m_TalkError : mg "TalkError" = some (.ref (He.ga K "TalkError"))
  m_BadNotebook : mg "BadNotebook" = some (.ref (He.ga K "BadNotebook"))
  m_Notebook : mg "Notebook" = some (.ref (He.ga K "Notebook"))
  b_TalkError : ClX.CRead K (He.ga K "TalkError") (.type "type") ∧ PySem.W.findCls K (.ref (He.ga K "TalkError")) (.type "type") "__init__" = some (.val (.builtin "ValueError.__init__"))
  oe_BadNotebook : OexC K (He.ga K "BadNotebook")
  na_BadNotebook_part : NoAttr K (He.ga K "BadNotebook") "part"
  xf_BadNotebook : XfC K (He.ga K "BadNotebook")
  ex_BadNotebook_BadNotebook : PySem.W.exmOne K (.ref (He.ga K "BadNotebook")) (.ref (He.ga K "BadNotebook")) = some true
  i_Notebook : InsOk K (He.ga K "Notebook")
  p_Notebook : ∀ {k : String}, k ∈ kindsL → PySem.W.kitOne K (.type k) (.ref (He.ga K "Notebook")) = some false ∧ PySem.W.notFirst K (He.ga K "Notebook") (.type k) = true
  a_Notebook_moves : FldOk K (He.ga K "Notebook") "moves"
  a_Notebook_turns : FldOk K (He.ga K "Notebook") "turns"
  a_Notebook_letters : FldOk K (He.ga K "Notebook") "letters"
  ne_Notebook : PySem.W.findIn K (.ref (He.ga K "Notebook")) "__ne__" = some (some (.builtin "object.__ne__"))
  k_Notebook_Notebook : PySem.W.kitOne K (.ref (He.ga K "Notebook")) (.ref (He.ga K "Notebook")) = some true
abbrev FnD (K : PySem.W.Frag) (x qual : Str) (st : Stmt) (dvs : List V) (f : Addr) (fd : FuncData) : Prop := FunD K x qual (defArgs st) (defBody st) (defScope st) dvs [] f fd
/-! ### BadNotebook.__init__ -/
abbrev s_BadNotebook___init__ : Stmt := (inClass (top 2) 0)
theorem S_BadNotebook___init__ : FnScope ["self", "part"] ["self", "part"] (defScope s_BadNotebook___init__) := ⟨rfl, rfl, rfl, by decide +kernel, rfl, by decide +kernel, by decide +kernel⟩
theorem ok_BadNotebook___init__ {P : Program} {w : World} {K : PySem.W.Frag} {mg : Str → Option Value} {base : Heap} {f : Addr} {fd : FuncData} (T : Facts K mg) (F : FnD K "__init__" "BadNotebook.__init__" s_BadNotebook___init__ [] f fd) : FnOk P w K mg base CX0 1 f fd ["self", "part"] (spIni1 K "part") :=
  F.ok S_BadNotebook___init__ (fun vs H Q E h => by unfold spIni1 at h; obtain ⟨_, _, _, rfl, _⟩ := h; rfl) (fun cdv A outer s H vs Q E hr h => ⟨tIni1 K "BadNotebook" "part", PSs.nox (pss_cons (ps_expr (pe_baseinit rfl T.m_TalkError T.b_TalkError.1 T.b_TalkError.2 (pa_cons (pe_var (i := 0) rfl (Or.inl rfl)) (pa_cons pe_str pa_nil))))
    (pss_one (ps_ost (pe_var (i := 0) rfl (Or.inl rfl)) (pe_var (i := 1) rfl (Or.inl rfl))))), pure_ini1 h⟩)
/-! ### is_integer -/
abbrev s_is_integer : Stmt := (top 4)
abbrev sc_is_integer : Scope := defScope s_is_integer
abbrev N_is_integer : List Str := ["value"]
theorem S_is_integer : FnScope N_is_integer ["value"] sc_is_integer := ⟨rfl, rfl, rfl, by decide +kernel, rfl, by decide +kernel, by decide +kernel⟩
def mx_is_integer_p1 {α : Type} (a e c : List α) : List α := match a, e, c with
  | [a0], [], [] => [a0]
  | _, _, _ => []
abbrev g_is_integer_p1 : List D → List D → List D := fun ds es => mx_is_integer_p1 ds [] es
theorem b_is_integer_p1 {K : PySem.W.Frag} {f : Addr} {fd : FuncData} (F : FnD K "is_integer" "is_integer" s_is_integer [] f fd) : Bnd K fd ["value"] 1 [] g_is_integer_p1 :=
  bnd0 F 1 [] mx_is_integer_p1 (fun {α β R a c b d'} ra la rc lc => by
      match a, b, ra, la, c, d', rc, lc with
      | _, _, (.cons a0 .nil), _, _, _, .nil, _ => exact (.cons a0 .nil))
    (fun kV doc pm an cdv ct us ws h1 h2 => by
      match us, h1, ws, h2 with
      | [a0], _, [], _ => rfl)
def t_is_integer : TDS :=
    (dRet (dAndV (dIsi "int" (dVar 0)) (dNotV (dIsi "bool" (dVar 0)))))
theorem der_is_integer {P : Program} {w : World} {K : PySem.W.Frag} {mg : Str → Option Value} {base : Heap} (T : Facts K mg) :
    Der P w K mg base N_is_integer "is_integer" sc_is_integer (defBody s_is_integer) 0 (t_is_integer) := by
  intro f cdv A outer s H E hr hgd
  have nd := S_is_integer.nd
  exact (dss_one (ds_ret (de_and (de_isi (T := "int") (by decide) rfl T.z_isinstance rfl T.z_int (by decide +kernel) (de_var 0)) (de_one (de_not (de_isi (T := "bool") (by decide) rfl T.z_isinstance rfl T.z_bool (by decide +kernel) (de_var 0)))))))
/-! ### is_list -/
abbrev s_is_list : Stmt := (top 6)
abbrev sc_is_list : Scope := defScope s_is_list
abbrev N_is_list : List Str := ["value"]
theorem S_is_list : FnScope N_is_list ["value"] sc_is_list := ⟨rfl, rfl, rfl, by decide +kernel, rfl, by decide +kernel, by decide +kernel⟩
def mx_is_list_p1 {α : Type} (a e c : List α) : List α := match a, e, c with
  | [a0], [], [] => [a0]
  | _, _, _ => []
abbrev g_is_list_p1 : List D → List D → List D := fun ds es => mx_is_list_p1 ds [] es
theorem b_is_list_p1 {K : PySem.W.Frag} {f : Addr} {fd : FuncData} (F : FnD K "is_list" "is_list" s_is_list [] f fd) : Bnd K fd ["value"] 1 [] g_is_list_p1 :=
  bnd0 F 1 [] mx_is_list_p1 (fun {α β R a c b d'} ra la rc lc => by
      match a, b, ra, la, c, d', rc, lc with
      | _, _, (.cons a0 .nil), _, _, _, .nil, _ => exact (.cons a0 .nil))
    (fun kV doc pm an cdv ct us ws h1 h2 => by
      match us, h1, ws, h2 with
      | [a0], _, [], _ => rfl)
def t_is_list : TDS :=
    (dRet (dIsiT ["list", "tuple"] (dVar 0)))
theorem der_is_list {P : Program} {w : World} {K : PySem.W.Frag} {mg : Str → Option Value} {base : Heap} (T : Facts K mg) :
    Der P w K mg base N_is_list "is_list" sc_is_list (defBody s_is_list) 0 (t_is_list) := by
  intro f cdv A outer s H E hr hgd
  have nd := S_is_list.nd
  exact (dss_one (ds_ret (de_isi2 (S := "list") (T := "tuple") (by decide) (by decide) rfl T.z_isinstance rfl T.z_list (by decide +kernel) rfl T.z_tuple (by decide +kernel) (de_var 0))))
/-! ### Notebook.__eq__ -/
abbrev s_Notebook___eq__ : Stmt := (inClass (top 10) 1)
abbrev sc_Notebook___eq__ : Scope := defScope s_Notebook___eq__
abbrev N_Notebook___eq__ : List Str := ["self", "other"]
theorem S_Notebook___eq__ : FnScope N_Notebook___eq__ ["self", "other"] sc_Notebook___eq__ := ⟨rfl, rfl, rfl, by decide +kernel, rfl, by decide +kernel, by decide +kernel⟩
def mx_Notebook___eq___p2 {α : Type} (a e c : List α) : List α := match a, e, c with
  | [a0, a1], [], [] => [a0, a1]
  | _, _, _ => []
abbrev g_Notebook___eq___p2 : List D → List D → List D := fun ds es => mx_Notebook___eq___p2 ds [] es
theorem b_Notebook___eq___p2 {K : PySem.W.Frag} {f : Addr} {fd : FuncData} (F : FnD K "__eq__" "Notebook.__eq__" s_Notebook___eq__ [] f fd) : Bnd K fd ["self", "other"] 2 [] g_Notebook___eq___p2 :=
  bnd0 F 2 [] mx_Notebook___eq___p2 (fun {α β R a c b d'} ra la rc lc => by
      match a, b, ra, la, c, d', rc, lc with
      | _, _, (.cons a0 (.cons a1 .nil)), _, _, _, .nil, _ => exact (.cons a0 (.cons a1 .nil)))
    (fun kV doc pm an cdv ct us ws h1 h2 => by
      match us, h1, ws, h2 with
      | [a0, a1], _, [], _ => rfl)
def t_Notebook___eq__ (K : PySem.W.Frag) : TDS :=
    (dRet (dAndV (dIsiC K (He.ga K "Notebook") (dVar 1)) (dAndV (dBin fEq (dFld K "moves" (dVar 0)) (dFld K "moves" (dVar 1))) (dBin fEq (dFld K "turns" (dVar 0)) (dFld K "turns" (dVar 1))))))
theorem der_Notebook___eq__ {P : Program} {w : World} {K : PySem.W.Frag} {mg : Str → Option Value} {base : Heap} (T : Facts K mg) :
    Der P w K mg base N_Notebook___eq__ "Notebook.__eq__" sc_Notebook___eq__ (defBody s_Notebook___eq__) 0 (t_Notebook___eq__ K) := by
  intro f cdv A outer s H E hr hgd
  have nd := S_Notebook___eq__.nd
  exact (dss_one (ds_ret (de_and (de_isiC rfl T.z_isinstance rfl T.m_Notebook (de_var 1)) (de_and (de_cmp (op_eq2 hr.units) o2_eq (de_fld (de_var 0)) (de_fld (de_var 1))) (de_one (de_cmp (op_eq2 hr.units) o2_eq (de_fld (de_var 0)) (de_fld (de_var 1))))))))
/-! ### _law_store -/
abbrev s_law_store : Stmt := (top 13)
abbrev sc_law_store : Scope := defScope s_law_store
abbrev N_law_store : List Str := ["script", "cell"]
theorem S_law_store : FnScope N_law_store ["script"] sc_law_store := ⟨rfl, rfl, rfl, by decide +kernel, rfl, by decide +kernel, by decide +kernel⟩
def mx_law_store_p1 {α : Type} (a e c : List α) : List α := match a, e, c with
  | [a0], [], [] => [a0]
  | _, _, _ => []
abbrev g_law_store_p1 : List D → List D → List D := fun ds es => mx_law_store_p1 ds [] es
theorem b_law_store_p1 {K : PySem.W.Frag} {f : Addr} {fd : FuncData} (F : FnD K "_law_store" "_law_store" s_law_store [] f fd) : Bnd K fd ["script"] 1 [] g_law_store_p1 :=
  bnd0 F 1 [] mx_law_store_p1 (fun {α β R a c b d'} ra la rc lc => by
      match a, b, ra, la, c, d', rc, lc with
      | _, _, (.cons a0 .nil), _, _, _, .nil, _ => exact (.cons a0 .nil))
    (fun kV doc pm an cdv ct us ws h1 h2 => by
      match us, h1, ws, h2 with
      | [a0], _, [], _ => rfl)
def t_law_store : TDS :=
    (dRet (dLstM (dCons (dLc (dISeq (dSl (dVar 0) dNoP (dPart (dC (.int 63))))) (gN 1) dYes (dCB fInt (dCons (dVar 1) dNil)) [1]) (dCons (dC (.int 0)) (dCons (dC (.int 0)) dNil)))))
theorem der_law_store {P : Program} {w : World} {K : PySem.W.Frag} {mg : Str → Option Value} {base : Heap} (T : Facts K mg) :
    Der P w K mg base N_law_store "_law_store" sc_law_store (defBody s_law_store) 0 (t_law_store) := by
  intro f cdv A outer s H E hr hgd
  have nd := S_law_store.nd
  exact (dss_one (ds_ret (de_lstM (da_cons (de_lc (own := [("cell", 1)]) rfl nd (di_seq (de_sl (de_var 0) do_none (do_some de_int))) (blkOk_by (own := [("cell", 1)]) (N := N_law_store) (sc := sc_law_store) (by decide +kernel)) (fun _ _ _ _ _ => (gp_name (vs := [1]) nd (by decide) rfl (Or.inl rfl))) (fun _ _ _ _ _ => dts_nil) (fun _ _ _ _ _ => (de_ct call_int1 cd_int rfl T.z_int (by decide +kernel) (da_cons (de_var 1) da_nil)))) (da_cons de_int (da_cons de_int da_nil))))))
/-! ### _law_draw -/
abbrev s_law_draw : Stmt := (top 14)
abbrev sc_law_draw : Scope := defScope s_law_draw
abbrev N_law_draw : List Str := ["store", "many", "rest", "tally", "cell", "mixed"]
theorem S_law_draw : FnScope N_law_draw ["store", "many"] sc_law_draw := ⟨rfl, rfl, rfl, by decide +kernel, rfl, by decide +kernel, by decide +kernel⟩
def mx_law_draw_p2 {α : Type} (a e c : List α) : List α := match a, e, c with
  | [a0, a1], [], [] => [a0, a1]
  | _, _, _ => []
abbrev g_law_draw_p2 : List D → List D → List D := fun ds es => mx_law_draw_p2 ds [] es
theorem b_law_draw_p2 {K : PySem.W.Frag} {f : Addr} {fd : FuncData} (F : FnD K "_law_draw" "_law_draw" s_law_draw [] f fd) : Bnd K fd ["store", "many"] 2 [] g_law_draw_p2 :=
  bnd0 F 2 [] mx_law_draw_p2 (fun {α β R a c b d'} ra la rc lc => by
      match a, b, ra, la, c, d', rc, lc with
      | _, _, (.cons a0 (.cons a1 .nil)), _, _, _, .nil, _ => exact (.cons a0 (.cons a1 .nil)))
    (fun kV doc pm an cdv ct us ws h1 h2 => by
      match us, h1, ws, h2 with
      | [a0, a1], _, [], _ => rfl)
def t_law_draw : TDS :=
    (dSeq (dIfS (dTst (dBin fGt (dBin fIx (dVar 0) (dC (.int 2))) (dC (.int 0))))
    (dSeq (dAsg (dCB fInt (dCons (dBin fIx (dVar 0) (dC (.int 2))) dNil)) (gN 2))
    (dSeq (dSetIx (dBin fFd (dVar 2) (dVar 1)) (dVar 0) (dC (.int 2)))
    (dRet (dBin fMod (dCB fInt (dCons (dVar 2) dNil)) (dVar 1)))))
    dNext)
    (dSeq (dAsg (dBin fIx (dVar 0) (dC (.int 1))) (gN 3))
    (dSeq (dSetIx (dBin fAdd (dVar 3) (dC (.int 1))) (dVar 0) (dC (.int 1)))
    (dSeq (dAsg (dBin fAdd (dBin fMul (dC (.int 82007)) (dVar 3)) (dC (.int 4217))) (gN 4))
    (dSeq (dIfS (dTst (dBin fNe (dBin fIx (dVar 0) (dC (.int 0))) (dLst dNil)))
    (dAsg (dBin fIx (dBin fIx (dVar 0) (dC (.int 0))) (dBin fMod (dCB fInt (dCons (dVar 3) dNil)) (dCB fLen (dCons (dBin fIx (dVar 0) (dC (.int 0))) dNil)))) (gN 4))
    dNext)
    (dSeq (dIfS (dAnd (dTst (dBin fLt (dVar 3) (dCB fLen (dCons (dBin fIx (dVar 0) (dC (.int 0))) dNil)))) (dTst (dBin fGe (dCB fAbs (dCons (dVar 4) dNil)) (dBin fPow (dC (.int 10)) (dC (.int 18))))))
    (dSeq (dAsg (dBin fAdd (dBin fMul (dC (.int 2)) (dBin fSub (dCB fAbs (dCons (dCB fInt (dCons (dVar 4) dNil)) dNil)) (dBin fPow (dC (.int 10)) (dC (.int 18))))) (dCB fInt (dCons (dBin fLt (dVar 4) (dC (.int 0))) dNil))) (gN 2))
    (dSeq (dSetIx (dBin fFd (dVar 2) (dVar 1)) (dVar 0) (dC (.int 2)))
    (dRet (dBin fMod (dCB fInt (dCons (dVar 2) dNil)) (dVar 1)))))
    dNext)
    (dSeq (dAsg (dBin fMod (dCB fInt (dCons (dBin fPow (dBin fAdd (dBin fAdd (dBin fMod (dCB fInt (dCons (dVar 4) dNil)) (dC (.int 2147483587))) (dBin fMul (dC (.int 86083)) (dVar 3))) (dC (.int 4217))) (dC (.int 5))) dNil)) (dC (.int 2147483629))) (gN 5))
    (dSeq (dAsg (dBin fMod (dCB fInt (dCons (dBin fPow (dBin fAdd (dBin fAdd (dBin fMul (dVar 5) (dBin fAdd (dBin fMul (dC (.int 2)) (dVar 3)) (dC (.int 4217)))) (dBin fMul (dBin fMul (dC (.int 82007)) (dVar 3)) (dVar 3))) (dC (.int 86083))) (dC (.int 3))) dNil)) (dC (.int 2147483543))) (gN 5))
    (dRet (dBin fMod (dCB fInt (dCons (dBin fFd (dVar 5) (dC (.int 64))) dNil)) (dVar 1)))))))))))
theorem der_law_draw {P : Program} {w : World} {K : PySem.W.Frag} {mg : Str → Option Value} {base : Heap} (T : Facts K mg) :
    Der P w K mg base N_law_draw "_law_draw" sc_law_draw (defBody s_law_draw) 0 (t_law_draw) := by
  intro f cdv A outer s H E hr hgd
  have nd := S_law_draw.nd
  have po : PassesOwn (model P w) (dX P w K mg base N_law_draw "_law_draw" sc_law_draw f cdv A outer s H E).A (dX P w K mg base N_law_draw "_law_draw" sc_law_draw f cdv A outer s H E).env (dX P w K mg base N_law_draw "_law_draw" sc_law_draw f cdv A outer s H E).xe := passes_of rfl
  exact (dss_cons (ds_if (dt_cmp op_gt o2_gt (de_ix ix_seq o2_ix (de_var 0) de_int) de_int)
      (dss_cons (ds_set 2 nd (de_ct call_int1 cd_int rfl T.z_int (by decide +kernel) (da_cons (de_ix ix_seq o2_ix (de_var 0) de_int) da_nil)))
      (dss_cons (ds_setIx (de_op op_fd o2_fd (de_var 2) (de_var 1)) (de_var 0) de_int)
      (dss_one (ds_ret (de_op op_modN o2_mod (de_ct call_int1 cd_int rfl T.z_int (by decide +kernel) (da_cons (de_var 2) da_nil)) (de_var 1))))))
      dss_nil)
      (dss_cons (ds_set 3 nd (de_ix ix_seq o2_ix (de_var 0) de_int))
      (dss_cons (ds_setIx (de_op op_add4 o2_add (de_var 3) de_int) (de_var 0) de_int)
      (dss_cons (ds_set 4 nd (de_op op_add4 o2_add (de_op op_mul3 o2_mul de_int (de_var 3)) de_int))
      (dss_cons (ds_if (dt_cmp (op_ne2 hr.units) o2_ne (de_ix ix_seq o2_ix (de_var 0) de_int) (de_lst da_nil))
      (dss_one (ds_set 4 nd (de_ix ix_seq o2_ix (de_ix ix_seq o2_ix (de_var 0) de_int) (de_op op_modN o2_mod (de_ct call_int1 cd_int rfl T.z_int (by decide +kernel) (da_cons (de_var 3) da_nil)) (de_cb call_len3 cd_len rfl T.z_len (by decide +kernel) (da_cons (de_ix ix_seq o2_ix (de_var 0) de_int) da_nil))))))
      dss_nil)
      (dss_cons (ds_if (dt_w (dw_and (dt_cmp op_lt o2_lt (de_var 3) (de_cb call_len3 cd_len rfl T.z_len (by decide +kernel) (da_cons (de_ix ix_seq o2_ix (de_var 0) de_int) da_nil))) (dw_and1 (dt_cmp op_ge o2_ge (de_cb call_abs cd_abs rfl T.z_abs (by decide +kernel) (da_cons (de_var 4) da_nil)) (de_op op_pow o2_pow de_int de_int)))))
      (dss_cons (ds_set 2 nd (de_op op_add4 o2_add (de_op op_mul3 o2_mul de_int (de_op op_sub o2_sub (de_cb call_abs cd_abs rfl T.z_abs (by decide +kernel) (da_cons (de_ct call_int1 cd_int rfl T.z_int (by decide +kernel) (da_cons (de_var 4) da_nil)) da_nil)) (de_op op_pow o2_pow de_int de_int))) (de_ct call_int1 cd_int rfl T.z_int (by decide +kernel) (da_cons (de_cmp op_lt o2_lt (de_var 4) de_int) da_nil))))
      (dss_cons (ds_setIx (de_op op_fd o2_fd (de_var 2) (de_var 1)) (de_var 0) de_int)
      (dss_one (ds_ret (de_op op_modN o2_mod (de_ct call_int1 cd_int rfl T.z_int (by decide +kernel) (da_cons (de_var 2) da_nil)) (de_var 1))))))
      dss_nil)
      (dss_cons (ds_set 5 nd (de_op op_modN o2_mod (de_ct call_int1 cd_int rfl T.z_int (by decide +kernel) (da_cons (de_op op_pow o2_pow (de_op op_add4 o2_add (de_op op_add4 o2_add (de_op op_modN o2_mod (de_ct call_int1 cd_int rfl T.z_int (by decide +kernel) (da_cons (de_var 4) da_nil)) de_int) (de_op op_mul3 o2_mul de_int (de_var 3))) de_int) de_int) da_nil)) de_int))
      (dss_cons (ds_set 5 nd (de_op op_modN o2_mod (de_ct call_int1 cd_int rfl T.z_int (by decide +kernel) (da_cons (de_op op_pow o2_pow (de_op op_add4 o2_add (de_op op_add4 o2_add (de_op op_mul3 o2_mul (de_var 5) (de_op op_add4 o2_add (de_op op_mul3 o2_mul de_int (de_var 3)) de_int)) (de_op op_mul3 o2_mul (de_op op_mul3 o2_mul de_int (de_var 3)) (de_var 3))) de_int) de_int) da_nil)) de_int))
      (dss_one (ds_ret (de_op op_modN o2_mod (de_ct call_int1 cd_int rfl T.z_int (by decide +kernel) (da_cons (de_op op_fd o2_fd (de_var 5) de_int) da_nil)) (de_var 1))))))))))))
/-! ### _law_is_same -/
abbrev s_law_is_same : Stmt := (top 19)
abbrev sc_law_is_same : Scope := defScope s_law_is_same
abbrev N_law_is_same : List Str := ["told", "acts", "rows", "move", "row"]
theorem S_law_is_same : FnScope N_law_is_same ["told", "acts", "rows"] sc_law_is_same := ⟨rfl, rfl, rfl, by decide +kernel, rfl, by decide +kernel, by decide +kernel⟩
def mx_law_is_same_p3 {α : Type} (a e c : List α) : List α := match a, e, c with
  | [a0, a1, a2], [], [] => [a0, a1, a2]
  | _, _, _ => []
abbrev g_law_is_same_p3 : List D → List D → List D := fun ds es => mx_law_is_same_p3 ds [] es
theorem b_law_is_same_p3 {K : PySem.W.Frag} {f : Addr} {fd : FuncData} (F : FnD K "_law_is_same" "_law_is_same" s_law_is_same [] f fd) : Bnd K fd ["told", "acts", "rows"] 3 [] g_law_is_same_p3 :=
  bnd0 F 3 [] mx_law_is_same_p3 (fun {α β R a c b d'} ra la rc lc => by
      match a, b, ra, la, c, d', rc, lc with
      | _, _, (.cons a0 (.cons a1 (.cons a2 .nil))), _, _, _, .nil, _ => exact (.cons a0 (.cons a1 (.cons a2 .nil))))
    (fun kV doc pm an cdv ct us ws h1 h2 => by
      match us, h1, ws, h2 with
      | [a0, a1, a2], _, [], _ => rfl)
def t_law_is_same (K : PySem.W.Frag) : TDS :=
    (dSeq (dIfS (dOr (dNot (dTst (dIsiC K (He.ga K "Notebook") (dVar 0)))) (dOr (dTst (dBin fNe (dFld K "letters" (dVar 0)) (dCB fLen (dCons (dBin fIx (dVar 2) (dC (.int 0))) dNil)))) (dTst (dIsi "bool" (dFld K "letters" (dVar 0))))))
    (dRet (dC (.bl false)))
    dNext)
    (dSeq (dIfS (dOr (dNot (dTst (dIsi "tuple" (dFld K "moves" (dVar 0))))) (dOr (dTst (dBin fNe (dFld K "moves" (dVar 0)) (dCB fTuple (dCons (dVar 1) dNil)))) (dTst (dCB fAny (dCons (dLc (dISeq (dFld K "moves" (dVar 0))) (gN 3) dYes (dIsi "bool" (dVar 3)) [3]) dNil)))))
    (dRet (dC (.bl false)))
    dNext)
    (dSeq (dIfS (dOr (dNot (dTst (dIsi "tuple" (dFld K "turns" (dVar 0))))) (dNot (dTst (dCB fAll (dCons (dLc (dISeq (dFld K "turns" (dVar 0))) (gN 4) dYes (dIsi "tuple" (dVar 4)) [4]) dNil)))))
    (dRet (dC (.bl false)))
    dNext)
    (dRet (dBin fEq (dFld K "turns" (dVar 0)) (dCB fTuple (dCons (dLc (dISeq (dVar 2)) (gN 4) dYes (dCB fTuple (dCons (dVar 4) dNil)) [4]) dNil)))))))
theorem der_law_is_same {P : Program} {w : World} {K : PySem.W.Frag} {mg : Str → Option Value} {base : Heap} (T : Facts K mg) :
    Der P w K mg base N_law_is_same "_law_is_same" sc_law_is_same (defBody s_law_is_same) 0 (t_law_is_same K) := by
  intro f cdv A outer s H E hr hgd
  have nd := S_law_is_same.nd
  exact (dss_cons (ds_if (dt_w (dw_or (dt_not (dt_val (de_isiC rfl T.z_isinstance rfl T.m_Notebook (de_var 0)))) (dw_or (dt_cmp (op_ne2 hr.units) o2_ne (de_fld (de_var 0)) (de_cb call_len3 cd_len rfl T.z_len (by decide +kernel) (da_cons (de_ix ix_seq o2_ix (de_var 2) de_int) da_nil))) (dw_or1 (dt_val (de_isi (T := "bool") (by decide) rfl T.z_isinstance rfl T.z_bool (by decide +kernel) (de_fld (de_var 0))))))))
      (dss_one (ds_ret de_bl))
      dss_nil)
      (dss_cons (ds_if (dt_w (dw_or (dt_not (dt_val (de_isi (T := "tuple") (by decide) rfl T.z_isinstance rfl T.z_tuple (by decide +kernel) (de_fld (de_var 0))))) (dw_or (dt_cmp (op_ne2 hr.units) o2_ne (de_fld (de_var 0)) (de_ct call_tuple_of cd_tuple rfl T.z_tuple (by decide +kernel) (da_cons (de_var 1) da_nil))) (dw_or1 (dt_val (de_cb (cr_any rfl) cd_any rfl T.z_any (by decide +kernel) (da_cons (de_lc (own := [("move", 3)]) rfl nd (di_seq (de_fld (de_var 0))) (blkOk_by (own := [("move", 3)]) (N := N_law_is_same) (sc := sc_law_is_same) (by decide +kernel)) (fun _ _ _ _ _ => (gp_name (vs := [3]) nd (by decide) rfl (Or.inl rfl))) (fun _ _ _ _ _ => dts_nil) (fun _ _ _ _ _ => (de_isi (T := "bool") (by decide) rfl T.z_isinstance rfl T.z_bool (by decide +kernel) (de_var 3)))) da_nil)))))))
      (dss_one (ds_ret de_bl))
      dss_nil)
      (dss_cons (ds_if (dt_w (dw_or (dt_not (dt_val (de_isi (T := "tuple") (by decide) rfl T.z_isinstance rfl T.z_tuple (by decide +kernel) (de_fld (de_var 0))))) (dw_or1 (dt_not (dt_val (de_cb (cr_all rfl) cd_all rfl T.z_all (by decide +kernel) (da_cons (de_lc (own := [("row", 4)]) rfl nd (di_seq (de_fld (de_var 0))) (blkOk_by (own := [("row", 4)]) (N := N_law_is_same) (sc := sc_law_is_same) (by decide +kernel)) (fun _ _ _ _ _ => (gp_name (vs := [4]) nd (by decide) rfl (Or.inl rfl))) (fun _ _ _ _ _ => dts_nil) (fun _ _ _ _ _ => (de_isi (T := "tuple") (by decide) rfl T.z_isinstance rfl T.z_tuple (by decide +kernel) (de_var 4)))) da_nil)))))))
      (dss_one (ds_ret de_bl))
      dss_nil)
      (dss_one (ds_ret (de_cmp (op_eq2 hr.units) o2_eq (de_fld (de_var 0)) (de_ct call_tuple_of cd_tuple rfl T.z_tuple (by decide +kernel) (da_cons (de_lc (own := [("row", 4)]) rfl nd (di_seq (de_var 2)) (blkOk_by (own := [("row", 4)]) (N := N_law_is_same) (sc := sc_law_is_same) (by decide +kernel)) (fun _ _ _ _ _ => (gp_name (vs := [4]) nd (by decide) rfl (Or.inl rfl))) (fun _ _ _ _ _ => dts_nil) (fun _ _ _ _ _ => (de_ct call_tuple_of cd_tuple rfl T.z_tuple (by decide +kernel) (da_cons (de_var 4) da_nil)))) da_nil))))))))
/-! ### is_within -/
abbrev s_is_within : Stmt := (top 5)
abbrev sc_is_within : Scope := defScope s_is_within
abbrev N_is_within : List Str := ["value", "least", "most"]
theorem S_is_within : FnScope N_is_within ["value", "least", "most"] sc_is_within := ⟨rfl, rfl, rfl, by decide +kernel, rfl, by decide +kernel, by decide +kernel⟩
def mx_is_within_p3 {α : Type} (a e c : List α) : List α := match a, e, c with
  | [a0, a1, a2], [], [] => [a0, a1, a2]
  | _, _, _ => []
abbrev g_is_within_p3 : List D → List D → List D := fun ds es => mx_is_within_p3 ds [] es
theorem b_is_within_p3 {K : PySem.W.Frag} {f : Addr} {fd : FuncData} (F : FnD K "is_within" "is_within" s_is_within [] f fd) : Bnd K fd ["value", "least", "most"] 3 [] g_is_within_p3 :=
  bnd0 F 3 [] mx_is_within_p3 (fun {α β R a c b d'} ra la rc lc => by
      match a, b, ra, la, c, d', rc, lc with
      | _, _, (.cons a0 (.cons a1 (.cons a2 .nil))), _, _, _, .nil, _ => exact (.cons a0 (.cons a1 (.cons a2 .nil))))
    (fun kV doc pm an cdv ct us ws h1 h2 => by
      match us, h1, ws, h2 with
      | [a0, a1, a2], _, [], _ => rfl)
def t_is_within (sp_is_integer : SpD) : TDS :=
    (dSeq (dIfS (dNot (dTst (dCall sp_is_integer 1 0 g_is_integer_p1 (dCons (dVar 0) dNil) dNil)))
    (dRet (dC (.bl false)))
    dNext)
    (dRet (dAndV (dOrV (dBin fIsN (dVar 1) (dC .non)) (dBin fLe (dVar 1) (dVar 0))) (dOrV (dBin fIsN (dVar 2) (dC .non)) (dBin fLe (dVar 0) (dVar 2))))))
theorem der_is_within {P : Program} {w : World} {K : PySem.W.Frag} {mg : Str → Option Value} {base : Heap} (T : Facts K mg)
    {f_is_integer : Addr} {fd_is_integer : FuncData} {sp_is_integer : SpD} (F_is_integer : FnD K "is_integer" "is_integer" s_is_integer [] f_is_integer fd_is_integer) (m_is_integer : mg "is_integer" = some (.ref f_is_integer)) (G_is_integer : FnG P w K mg base 1 f_is_integer fd_is_integer ["value"] sp_is_integer) :
    Der P w K mg base N_is_within "is_within" sc_is_within (defBody s_is_within) 1 (t_is_within sp_is_integer) := by
  intro f cdv A outer s H E hr hgd
  have nd := S_is_within.nd
  have tk : Takes (dX P w K mg base N_is_within "is_within" sc_is_within f cdv A outer s H E) (wE E) := takes_of rfl rfl rfl rfl
  exact (dss_cons (ds_if (dt_not (dt_val (de_call (G_is_integer.up_ (by decide)) hr hgd tk rfl m_is_integer F_is_integer.kp (b_is_integer_p1 F_is_integer) (da_cons (de_var 0) da_nil))))
      (dss_one (ds_ret de_bl))
      dss_nil)
      (dss_one (ds_ret (de_and (de_or (de_cmp op_isN o2_isN (de_var 1) de_non) (de_one (de_cmp op_le o2_le (de_var 1) (de_var 0)))) (de_one (de_or (de_cmp op_isN o2_isN (de_var 2) de_non) (de_one (de_cmp op_le o2_le (de_var 0) (de_var 2)))))))))
/-! ### _law_pick -/
abbrev s_law_pick : Stmt := (top 15)
abbrev sc_law_pick : Scope := defScope s_law_pick
abbrev N_law_pick : List Str := ["store", "some"]
theorem S_law_pick : FnScope N_law_pick ["store", "some"] sc_law_pick := ⟨rfl, rfl, rfl, by decide +kernel, rfl, by decide +kernel, by decide +kernel⟩
def mx_law_pick_p2 {α : Type} (a e c : List α) : List α := match a, e, c with
  | [a0, a1], [], [] => [a0, a1]
  | _, _, _ => []
abbrev g_law_pick_p2 : List D → List D → List D := fun ds es => mx_law_pick_p2 ds [] es
theorem b_law_pick_p2 {K : PySem.W.Frag} {f : Addr} {fd : FuncData} (F : FnD K "_law_pick" "_law_pick" s_law_pick [] f fd) : Bnd K fd ["store", "some"] 2 [] g_law_pick_p2 :=
  bnd0 F 2 [] mx_law_pick_p2 (fun {α β R a c b d'} ra la rc lc => by
      match a, b, ra, la, c, d', rc, lc with
      | _, _, (.cons a0 (.cons a1 .nil)), _, _, _, .nil, _ => exact (.cons a0 (.cons a1 .nil)))
    (fun kV doc pm an cdv ct us ws h1 h2 => by
      match us, h1, ws, h2 with
      | [a0, a1], _, [], _ => rfl)
def t_law_pick (sp_law_draw : SpD) : TDS :=
    (dRet (dBin fIx (dVar 1) (dCall sp_law_draw 2 0 g_law_draw_p2 (dCons (dVar 0) (dCons (dCB fLen (dCons (dVar 1) dNil)) dNil)) dNil)))
theorem der_law_pick {P : Program} {w : World} {K : PySem.W.Frag} {mg : Str → Option Value} {base : Heap} (T : Facts K mg)
    {f_law_draw : Addr} {fd_law_draw : FuncData} {sp_law_draw : SpD} (F_law_draw : FnD K "_law_draw" "_law_draw" s_law_draw [] f_law_draw fd_law_draw) (m_law_draw : mg "_law_draw" = some (.ref f_law_draw)) (G_law_draw : FnG P w K mg base 1 f_law_draw fd_law_draw ["store", "many"] sp_law_draw) :
    Der P w K mg base N_law_pick "_law_pick" sc_law_pick (defBody s_law_pick) 1 (t_law_pick sp_law_draw) := by
  intro f cdv A outer s H E hr hgd
  have nd := S_law_pick.nd
  have tk : Takes (dX P w K mg base N_law_pick "_law_pick" sc_law_pick f cdv A outer s H E) (wE E) := takes_of rfl rfl rfl rfl
  exact (dss_one (ds_ret (de_ix ix_seq o2_ix (de_var 1) (de_call (G_law_draw.up_ (by decide)) hr hgd tk rfl m_law_draw F_law_draw.kp (b_law_draw_p2 F_law_draw) (da_cons (de_var 0) (da_cons (de_cb call_len3 cd_len rfl T.z_len (by decide +kernel) (da_cons (de_var 1) da_nil)) da_nil))))))
/-! ### _law_copied -/
abbrev s_law_copied : Stmt := (top 20)
abbrev sc_law_copied : Scope := defScope s_law_copied
abbrev N_law_copied : List Str := ["store", "rows", "found", "row"]
theorem S_law_copied : FnScope N_law_copied ["store", "rows"] sc_law_copied := ⟨rfl, rfl, rfl, by decide +kernel, rfl, by decide +kernel, by decide +kernel⟩
def mx_law_copied_p2 {α : Type} (a e c : List α) : List α := match a, e, c with
  | [a0, a1], [], [] => [a0, a1]
  | _, _, _ => []
abbrev g_law_copied_p2 : List D → List D → List D := fun ds es => mx_law_copied_p2 ds [] es
theorem b_law_copied_p2 {K : PySem.W.Frag} {f : Addr} {fd : FuncData} (F : FnD K "_law_copied" "_law_copied" s_law_copied [] f fd) : Bnd K fd ["store", "rows"] 2 [] g_law_copied_p2 :=
  bnd0 F 2 [] mx_law_copied_p2 (fun {α β R a c b d'} ra la rc lc => by
      match a, b, ra, la, c, d', rc, lc with
      | _, _, (.cons a0 (.cons a1 .nil)), _, _, _, .nil, _ => exact (.cons a0 (.cons a1 .nil)))
    (fun kV doc pm an cdv ct us ws h1 h2 => by
      match us, h1, ws, h2 with
      | [a0, a1], _, [], _ => rfl)
def t_law_copied (sp_law_draw : SpD) : TDS :=
    (dSeq (dAsg (dLc (dISeq (dVar 1)) (gN 3) dYes (dCB fList (dCons (dVar 3) dNil)) [3]) (gN 2))
    (dSeq (dIfS (dTst (dBin fEq (dCall sp_law_draw 2 0 g_law_draw_p2 (dCons (dVar 0) (dCons (dC (.int 2)) dNil)) dNil) (dC (.int 0))))
    (dAsg (dLc (dISeq (dVar 1)) (gN 3) dYes (dCB fTuple (dCons (dVar 3) dNil)) [3]) (gN 2))
    dNext)
    (dRet (dIf (dTst (dBin fEq (dCall sp_law_draw 2 0 g_law_draw_p2 (dCons (dVar 0) (dCons (dC (.int 2)) dNil)) dNil) (dC (.int 0)))) (dVar 2) (dCB fTuple (dCons (dVar 2) dNil))))))
theorem der_law_copied {P : Program} {w : World} {K : PySem.W.Frag} {mg : Str → Option Value} {base : Heap} (T : Facts K mg)
    {f_law_draw : Addr} {fd_law_draw : FuncData} {sp_law_draw : SpD} (F_law_draw : FnD K "_law_draw" "_law_draw" s_law_draw [] f_law_draw fd_law_draw) (m_law_draw : mg "_law_draw" = some (.ref f_law_draw)) (G_law_draw : FnG P w K mg base 1 f_law_draw fd_law_draw ["store", "many"] sp_law_draw) :
    Der P w K mg base N_law_copied "_law_copied" sc_law_copied (defBody s_law_copied) 1 (t_law_copied sp_law_draw) := by
  intro f cdv A outer s H E hr hgd
  have nd := S_law_copied.nd
  have tk : Takes (dX P w K mg base N_law_copied "_law_copied" sc_law_copied f cdv A outer s H E) (wE E) := takes_of rfl rfl rfl rfl
  exact (dss_cons (ds_setLc (i := 2) (own := [("row", 3)]) rfl nd (di_seq (de_var 1)) (blkOk_by (own := [("row", 3)]) (N := N_law_copied) (sc := sc_law_copied) (by decide +kernel)) (fun _ _ _ _ _ => (gp_name (vs := [3]) nd (by decide) rfl (Or.inl rfl))) (fun _ _ _ _ _ => dts_nil) (fun _ _ _ _ _ => (de_ct call_list_of cd_list rfl T.z_list (by decide +kernel) (da_cons (de_var 3) da_nil))))
      (dss_cons (ds_if (dt_cmp (op_eq2 hr.units) o2_eq (de_call (G_law_draw.up_ (by decide)) hr hgd tk rfl m_law_draw F_law_draw.kp (b_law_draw_p2 F_law_draw) (da_cons (de_var 0) (da_cons de_int da_nil))) de_int)
      (dss_one (ds_setLc (i := 2) (own := [("row", 3)]) rfl nd (di_seq (de_var 1)) (blkOk_by (own := [("row", 3)]) (N := N_law_copied) (sc := sc_law_copied) (by decide +kernel)) (fun _ _ _ _ _ => (gp_name (vs := [3]) nd (by decide) rfl (Or.inl rfl))) (fun _ _ _ _ _ => dts_nil) (fun _ _ _ _ _ => (de_ct call_tuple_of cd_tuple rfl T.z_tuple (by decide +kernel) (da_cons (de_var 3) da_nil)))))
      dss_nil)
      (dss_one (ds_ret (de_if (dt_cmp (op_eq2 hr.units) o2_eq (de_call (G_law_draw.up_ (by decide)) hr hgd tk rfl m_law_draw F_law_draw.kp (b_law_draw_p2 F_law_draw) (da_cons (de_var 0) (da_cons de_int da_nil))) de_int) (de_var 2) (de_ct call_tuple_of cd_tuple rfl T.z_tuple (by decide +kernel) (da_cons (de_var 2) da_nil)))))))
/-! ### are_turns -/
abbrev s_are_turns : Stmt := (top 11)
abbrev sc_are_turns : Scope := defScope s_are_turns
abbrev N_are_turns : List Str := ["value", "pages", "row", "page"]
theorem S_are_turns : FnScope N_are_turns ["value", "pages"] sc_are_turns := ⟨rfl, rfl, rfl, by decide +kernel, rfl, by decide +kernel, by decide +kernel⟩
def mx_are_turns_p2 {α : Type} (a e c : List α) : List α := match a, e, c with
  | [a0, a1], [], [] => [a0, a1]
  | _, _, _ => []
abbrev g_are_turns_p2 : List D → List D → List D := fun ds es => mx_are_turns_p2 ds [] es
theorem b_are_turns_p2 {K : PySem.W.Frag} {f : Addr} {fd : FuncData} (F : FnD K "are_turns" "are_turns" s_are_turns [] f fd) : Bnd K fd ["value", "pages"] 2 [] g_are_turns_p2 :=
  bnd0 F 2 [] mx_are_turns_p2 (fun {α β R a c b d'} ra la rc lc => by
      match a, b, ra, la, c, d', rc, lc with
      | _, _, (.cons a0 (.cons a1 .nil)), _, _, _, .nil, _ => exact (.cons a0 (.cons a1 .nil)))
    (fun kV doc pm an cdv ct us ws h1 h2 => by
      match us, h1, ws, h2 with
      | [a0, a1], _, [], _ => rfl)
def t_are_turns (sp_is_within : SpD) (sp_is_list : SpD) : TDS :=
    (dSeq (dIfS (dOr (dNot (dTst (dCall sp_is_list 1 0 g_is_list_p1 (dCons (dVar 0) dNil) dNil))) (dOr (dTst (dBin fNe (dCB fLen (dCons (dVar 0) dNil)) (dVar 1))) (dNot (dTst (dCB fAll (dCons (dLc (dISeq (dVar 0)) (gN 2) dYes (dCall sp_is_list 1 0 g_is_list_p1 (dCons (dVar 2) dNil) dNil) [2]) dNil))))))
    (dRet (dC (.bl false)))
    dNext)
    (dSeq (dIfS (dOr (dNot (dTst (dChain fLe fLe (dC (.int 2)) (dCB fLen (dCons (dBin fIx (dVar 0) (dC (.int 0))) dNil)) (dC (.int 4))))) (dNot (dTst (dCB fAll (dCons (dLc (dISeq (dVar 0)) (gN 2) dYes (dBin fEq (dCB fLen (dCons (dVar 2) dNil)) (dCB fLen (dCons (dBin fIx (dVar 0) (dC (.int 0))) dNil))) [2]) dNil)))))
    (dRet (dC (.bl false)))
    dNext)
    (dRet (dCB fAll (dCons (dLc2 (dISeq (dVar 0)) (gN 2) dYes (dISeq (dVar 2)) (gN 3) dYes (dCall sp_is_within 3 0 g_is_within_p3 (dCons (dVar 3) (dCons (dC (.int 0)) (dCons (dBin fSub (dVar 1) (dC (.int 1))) dNil))) dNil) [2, 3] [3]) dNil)))))
theorem der_are_turns {P : Program} {w : World} {K : PySem.W.Frag} {mg : Str → Option Value} {base : Heap} (T : Facts K mg)
    {f_is_within : Addr} {fd_is_within : FuncData} {sp_is_within : SpD} (F_is_within : FnD K "is_within" "is_within" s_is_within [] f_is_within fd_is_within) (m_is_within : mg "is_within" = some (.ref f_is_within)) (G_is_within : FnG P w K mg base 2 f_is_within fd_is_within ["value", "least", "most"] sp_is_within)
    {f_is_list : Addr} {fd_is_list : FuncData} {sp_is_list : SpD} (F_is_list : FnD K "is_list" "is_list" s_is_list [] f_is_list fd_is_list) (m_is_list : mg "is_list" = some (.ref f_is_list)) (G_is_list : FnG P w K mg base 1 f_is_list fd_is_list ["value"] sp_is_list) :
    Der P w K mg base N_are_turns "are_turns" sc_are_turns (defBody s_are_turns) 2 (t_are_turns sp_is_within sp_is_list) := by
  intro f cdv A outer s H E hr hgd
  have nd := S_are_turns.nd
  have tk : Takes (dX P w K mg base N_are_turns "are_turns" sc_are_turns f cdv A outer s H E) (wE E) := takes_of rfl rfl rfl rfl
  exact (dss_cons (ds_if (dt_w (dw_or (dt_not (dt_val (de_call (G_is_list.up_ (by decide)) hr hgd tk rfl m_is_list F_is_list.kp (b_is_list_p1 F_is_list) (da_cons (de_var 0) da_nil)))) (dw_or (dt_cmp (op_ne2 hr.units) o2_ne (de_cb call_len3 cd_len rfl T.z_len (by decide +kernel) (da_cons (de_var 0) da_nil)) (de_var 1)) (dw_or1 (dt_not (dt_val (de_cb (cr_all rfl) cd_all rfl T.z_all (by decide +kernel) (da_cons (de_lc (own := [("row", 2)]) rfl nd (di_seq (de_var 0)) (blkOk_by (own := [("row", 2)]) (N := N_are_turns) (sc := sc_are_turns) (by decide +kernel)) (fun _ _ _ _ _ => (gp_name (vs := [2]) nd (by decide) rfl (Or.inl rfl))) (fun _ _ _ _ _ => dts_nil) (fun _ _ _ _ _ => (de_call (G_is_list.up_ (by decide)) hr hgd takes0 rfl m_is_list F_is_list.kp (b_is_list_p1 F_is_list) (da_cons (de_var 2) da_nil)))) da_nil))))))))
      (dss_one (ds_ret de_bl))
      dss_nil)
      (dss_cons (ds_if (dt_w (dw_or (dt_not (dt_chain op_le op_le o2_le o2_le de_int (de_cb call_len3 cd_len rfl T.z_len (by decide +kernel) (da_cons (de_ix ix_seq o2_ix (de_var 0) de_int) da_nil)) (de_globI rfl T.c_MOST_LETTERS))) (dw_or1 (dt_not (dt_val (de_cb (cr_all rfl) cd_all rfl T.z_all (by decide +kernel) (da_cons (de_lc (own := [("row", 2)]) rfl nd (di_seq (de_var 0)) (blkOk_by (own := [("row", 2)]) (N := N_are_turns) (sc := sc_are_turns) (by decide +kernel)) (fun _ _ _ _ _ => (gp_name (vs := [2]) nd (by decide) rfl (Or.inl rfl))) (fun _ _ _ _ _ => dts_nil) (fun _ _ _ _ _ => (de_cmp (op_eq2 hr.units) o2_eq (de_cb call_len3 cd_len rfl T.z_len (by decide +kernel) (da_cons (de_var 2) da_nil)) (de_cb call_len3 cd_len rfl T.z_len (by decide +kernel) (da_cons (de_ix ix_seq o2_ix (de_var 0) de_int) da_nil))))) da_nil)))))))
      (dss_one (ds_ret de_bl))
      dss_nil)
      (dss_one (ds_ret (de_cb (cr_all rfl) cd_all rfl T.z_all (by decide +kernel) (da_cons (de_lc2 (own := [("row", 2), ("page", 3)]) (vs1 := [3]) rfl nd (di_seq (de_var 0)) (blkOk_by (own := [("row", 2), ("page", 3)]) (N := N_are_turns) (sc := sc_are_turns) (by decide +kernel)) (by decide) (fun _ _ _ _ _ => (gp_name (vs := [2, 3]) nd (by decide) rfl (Or.inl rfl))) (fun _ _ _ _ _ => dts_nil) (fun _ _ _ _ _ => (di_seq (de_var 2))) (fun _ _ _ _ _ => (gp_name (vs := [3]) nd (by decide) rfl (Or.inl rfl))) (fun _ _ _ _ _ => dts_nil) (fun _ _ _ _ _ => (de_call (G_is_within.up_ (by decide)) hr hgd takes0 rfl m_is_within F_is_within.kp (b_is_within_p3 F_is_within) (da_cons (de_var 3) (da_cons de_int (da_cons (de_op op_sub o2_sub (de_var 1) de_int) da_nil)))))) da_nil))))))
/-! ### _law_bad_moves -/
abbrev s_law_bad_moves : Stmt := (top 17)
abbrev sc_law_bad_moves : Scope := defScope s_law_bad_moves
abbrev N_law_bad_moves : List Str := ["store", "acts", "kind", "place"]
theorem S_law_bad_moves : FnScope N_law_bad_moves ["store", "acts"] sc_law_bad_moves := ⟨rfl, rfl, rfl, by decide +kernel, rfl, by decide +kernel, by decide +kernel⟩
def mx_law_bad_moves_p2 {α : Type} (a e c : List α) : List α := match a, e, c with
  | [a0, a1], [], [] => [a0, a1]
  | _, _, _ => []
abbrev g_law_bad_moves_p2 : List D → List D → List D := fun ds es => mx_law_bad_moves_p2 ds [] es
theorem b_law_bad_moves_p2 {K : PySem.W.Frag} {f : Addr} {fd : FuncData} (F : FnD K "_law_bad_moves" "_law_bad_moves" s_law_bad_moves [] f fd) : Bnd K fd ["store", "acts"] 2 [] g_law_bad_moves_p2 :=
  bnd0 F 2 [] mx_law_bad_moves_p2 (fun {α β R a c b d'} ra la rc lc => by
      match a, b, ra, la, c, d', rc, lc with
      | _, _, (.cons a0 (.cons a1 .nil)), _, _, _, .nil, _ => exact (.cons a0 (.cons a1 .nil)))
    (fun kV doc pm an cdv ct us ws h1 h2 => by
      match us, h1, ws, h2 with
      | [a0, a1], _, [], _ => rfl)
def t_law_bad_moves (sp_law_pick : SpD) (sp_law_draw : SpD) : TDS :=
    (dSeq (dAsg (dCall sp_law_draw 2 0 g_law_draw_p2 (dCons (dVar 0) (dCons (dC (.int 4)) dNil)) dNil) (gN 2))
    (dSeq (dIfS (dTst (dBin fEq (dVar 2) (dC (.int 0))))
    (dRet (dCall sp_law_pick 2 0 g_law_pick_p2 (dCons (dVar 0) (dCons (dLst (dCons (dC .non) (dCons (dC (.int 3)) (dCons (dC (.str "0")) (dCons dDic0 (dCons (dLst dNil) dNil)))))) dNil)) dNil))
    dNext)
    (dSeq (dIfS (dTst (dBin fEq (dVar 2) (dC (.int 1))))
    (dRet (dSl (dBin fMul (dVar 1) (dC (.int 5))) dNoP (dPart (dC (.int 5)))))
    dNext)
    (dSeq (dAsg (dCall sp_law_draw 2 0 g_law_draw_p2 (dCons (dVar 0) (dCons (dCB fLen (dCons (dVar 1) dNil)) dNil)) dNil) (gN 3))
    (dRet (dBin fAdd (dBin fAdd (dSl (dVar 1) dNoP (dPart (dVar 3))) (dLst (dCons (dCall sp_law_pick 2 0 g_law_pick_p2 (dCons (dVar 0) (dCons (dLst (dCons (dC (.int 4)) (dCons (dUn fNeg (dC (.int 1))) (dCons (dC (.bl true)) (dCons (dC (.bl false)) (dCons (dC (.str "0")) (dCons (dTup (dCons (dC (.int 0)) dNil)) (dCons (dBin fPow (dC (.int 10)) (dC (.int 20))) dNil)))))))) dNil)) dNil) dNil))) (dSl (dVar 1) (dPart (dBin fAdd (dVar 3) (dC (.int 1)))) dNoP)))))))
theorem der_law_bad_moves {P : Program} {w : World} {K : PySem.W.Frag} {mg : Str → Option Value} {base : Heap} (T : Facts K mg)
    {f_law_pick : Addr} {fd_law_pick : FuncData} {sp_law_pick : SpD} (F_law_pick : FnD K "_law_pick" "_law_pick" s_law_pick [] f_law_pick fd_law_pick) (m_law_pick : mg "_law_pick" = some (.ref f_law_pick)) (G_law_pick : FnG P w K mg base 2 f_law_pick fd_law_pick ["store", "some"] sp_law_pick)
    {f_law_draw : Addr} {fd_law_draw : FuncData} {sp_law_draw : SpD} (F_law_draw : FnD K "_law_draw" "_law_draw" s_law_draw [] f_law_draw fd_law_draw) (m_law_draw : mg "_law_draw" = some (.ref f_law_draw)) (G_law_draw : FnG P w K mg base 1 f_law_draw fd_law_draw ["store", "many"] sp_law_draw) :
    Der P w K mg base N_law_bad_moves "_law_bad_moves" sc_law_bad_moves (defBody s_law_bad_moves) 2 (t_law_bad_moves sp_law_pick sp_law_draw) := by
  intro f cdv A outer s H E hr hgd
  have nd := S_law_bad_moves.nd
  have tk : Takes (dX P w K mg base N_law_bad_moves "_law_bad_moves" sc_law_bad_moves f cdv A outer s H E) (wE E) := takes_of rfl rfl rfl rfl
  have po : PassesOwn (model P w) (dX P w K mg base N_law_bad_moves "_law_bad_moves" sc_law_bad_moves f cdv A outer s H E).A (dX P w K mg base N_law_bad_moves "_law_bad_moves" sc_law_bad_moves f cdv A outer s H E).env (dX P w K mg base N_law_bad_moves "_law_bad_moves" sc_law_bad_moves f cdv A outer s H E).xe := passes_of rfl
  exact (dss_cons (ds_set 2 nd (de_call (G_law_draw.up_ (by decide)) hr hgd tk rfl m_law_draw F_law_draw.kp (b_law_draw_p2 F_law_draw) (da_cons (de_var 0) (da_cons de_int da_nil))))
      (dss_cons (ds_if (dt_cmp (op_eq2 hr.units) o2_eq (de_var 2) de_int)
      (dss_one (ds_ret (de_call (G_law_pick.up_ (by decide)) hr hgd tk rfl m_law_pick F_law_pick.kp (b_law_pick_p2 F_law_pick) (da_cons (de_var 0) (da_cons (de_lst (da_cons de_non (da_cons de_int (da_cons de_str (da_cons de_dic0 (da_cons (de_lst da_nil) da_nil)))))) da_nil)))))
      dss_nil)
      (dss_cons (ds_if (dt_cmp (op_eq2 hr.units) o2_eq (de_var 2) de_int)
      (dss_one (ds_ret (de_sl (de_op op_mul3 o2_mul (de_var 1) de_int) do_none (do_some de_int))))
      dss_nil)
      (dss_cons (ds_set 3 nd (de_call (G_law_draw.up_ (by decide)) hr hgd tk rfl m_law_draw F_law_draw.kp (b_law_draw_p2 F_law_draw) (da_cons (de_var 0) (da_cons (de_cb call_len3 cd_len rfl T.z_len (by decide +kernel) (da_cons (de_var 1) da_nil)) da_nil))))
      (dss_one (ds_ret (de_op op_add4 o2_add (de_op op_add4 o2_add (de_sl (de_var 1) do_none (do_some (de_var 3))) (de_lst (da_cons (de_call (G_law_pick.up_ (by decide)) hr hgd tk rfl m_law_pick F_law_pick.kp (b_law_pick_p2 F_law_pick) (da_cons (de_var 0) (da_cons (de_lst (da_cons de_int (da_cons (de_un un_neg o1_neg de_int) (da_cons de_bl (da_cons de_bl (da_cons de_str (da_cons (de_tup (da_cons de_int da_nil)) (da_cons (de_op op_pow o2_pow de_int de_int) da_nil)))))))) da_nil))) da_nil))) (de_sl (de_var 1) (do_some (de_op op_add4 o2_add (de_var 3) de_int)) do_none))))))))
/-! ### _law_bad_turns -/
abbrev s_law_bad_turns : Stmt := (top 18)
abbrev sc_law_bad_turns : Scope := defScope s_law_bad_turns
abbrev N_law_bad_turns : List Str := ["store", "rows", "kind", "many", "place", "index", "line", "row"]
theorem S_law_bad_turns : FnScope N_law_bad_turns ["store", "rows"] sc_law_bad_turns := ⟨rfl, rfl, rfl, by decide +kernel, rfl, by decide +kernel, by decide +kernel⟩
def mx_law_bad_turns_p2 {α : Type} (a e c : List α) : List α := match a, e, c with
  | [a0, a1], [], [] => [a0, a1]
  | _, _, _ => []
abbrev g_law_bad_turns_p2 : List D → List D → List D := fun ds es => mx_law_bad_turns_p2 ds [] es
theorem b_law_bad_turns_p2 {K : PySem.W.Frag} {f : Addr} {fd : FuncData} (F : FnD K "_law_bad_turns" "_law_bad_turns" s_law_bad_turns [] f fd) : Bnd K fd ["store", "rows"] 2 [] g_law_bad_turns_p2 :=
  bnd0 F 2 [] mx_law_bad_turns_p2 (fun {α β R a c b d'} ra la rc lc => by
      match a, b, ra, la, c, d', rc, lc with
      | _, _, (.cons a0 (.cons a1 .nil)), _, _, _, .nil, _ => exact (.cons a0 (.cons a1 .nil)))
    (fun kV doc pm an cdv ct us ws h1 h2 => by
      match us, h1, ws, h2 with
      | [a0, a1], _, [], _ => rfl)
def t_law_bad_turns (sp_law_pick : SpD) (sp_law_draw : SpD) : TDS :=
    (dSeq (dPar 2 3 (dCons (dCall sp_law_draw 2 0 g_law_draw_p2 (dCons (dVar 0) (dCons (dC (.int 7)) dNil)) dNil) (dCons (dCB fLen (dCons (dVar 1) dNil)) dNil)))
    (dSeq (dAsg (dCall sp_law_draw 2 0 g_law_draw_p2 (dCons (dVar 0) (dCons (dVar 3) dNil)) dNil) (gN 4))
    (dSeq (dAsg (dCall sp_law_draw 2 0 g_law_draw_p2 (dCons (dVar 0) (dCons (dCB fLen (dCons (dBin fIx (dVar 1) (dC (.int 0))) dNil)) dNil)) dNil) (gN 5))
    (dSeq (dIfS (dTst (dBin fEq (dVar 2) (dC (.int 0))))
    (dRet (dCall sp_law_pick 2 0 g_law_pick_p2 (dCons (dVar 0) (dCons (dLst (dCons (dC .non) (dCons (dC (.int 0)) (dCons (dC (.str "00")) (dCons dDic0 dNil))))) dNil)) dNil))
    dNext)
    (dSeq (dIfS (dTst (dBin fEq (dVar 2) (dC (.int 1))))
    (dRet (dBin fAdd (dVar 1) (dLst (dCons (dBin fIx (dVar 1) (dVar 4)) dNil))))
    dNext)
    (dSeq (dIfS (dTst (dBin fEq (dVar 2) (dC (.int 2))))
    (dRet (dSl (dVar 1) dNoP (dPart (dBin fSub (dVar 3) (dC (.int 1))))))
    dNext)
    (dSeq (dIfS (dTst (dBin fEq (dVar 2) (dC (.int 3))))
    (dRet (dLc (dISeq (dVar 1)) (gN 7) dYes (dSl (dBin fMul (dVar 7) (dC (.int 5))) dNoP (dPart (dC (.int 5)))) [7]))
    dNext)
    (dSeq (dIfS (dTst (dBin fEq (dVar 2) (dC (.int 4))))
    (dRet (dLc (dISeq (dVar 1)) (gN 7) dYes (dSl (dVar 7) dNoP (dPart (dC (.int 1)))) [7]))
    dNext)
    (dSeq (dAsg (dCall sp_law_pick 2 0 g_law_pick_p2 (dCons (dVar 0) (dCons (dLst (dCons (dC .non) (dCons (dC (.int 1)) (dCons (dC (.str "01")) dNil)))) dNil)) dNil) (gN 6))
    (dSeq (dIfS (dTst (dBin fEq (dVar 2) (dC (.int 5))))
    (dSeq (dAsg (dListM (dCons (dBin fIx (dVar 1) (dVar 4)) dNil)) (gN 6))
    (dSetIx (dCall sp_law_pick 2 0 g_law_pick_p2 (dCons (dVar 0) (dCons (dLst (dCons (dVar 3) (dCons (dUn fNeg (dC (.int 1))) (dCons (dC (.bl true)) (dCons (dC .non) (dCons (dC (.str "0")) (dCons (dTup (dCons (dC (.int 0)) dNil)) dNil))))))) dNil)) dNil) (dVar 6) (dVar 5)))
    (dIfS (dAnd (dTst (dBin fGt (dVar 3) (dC (.int 1)))) (dTst (dBin fEq (dCall sp_law_draw 2 0 g_law_draw_p2 (dCons (dVar 0) (dCons (dC (.int 2)) dNil)) dNil) (dC (.int 0)))))
    (dAsg (dIf (dTst (dBin fGt (dCB fLen (dCons (dBin fIx (dVar 1) (dVar 4)) dNil)) (dC (.int 2)))) (dSl (dBin fIx (dVar 1) (dVar 4)) (dPart (dC (.int 1))) dNoP) (dBin fAdd (dBin fIx (dVar 1) (dVar 4)) (dLst (dCons (dC (.int 0)) dNil)))) (gN 6))
    dNext))
    (dRet (dBin fAdd (dBin fAdd (dSl (dVar 1) dNoP (dPart (dVar 4))) (dLst (dCons (dVar 6) dNil))) (dSl (dVar 1) (dPart (dBin fAdd (dVar 4) (dC (.int 1)))) dNoP)))))))))))))
theorem der_law_bad_turns {P : Program} {w : World} {K : PySem.W.Frag} {mg : Str → Option Value} {base : Heap} (T : Facts K mg)
    {f_law_pick : Addr} {fd_law_pick : FuncData} {sp_law_pick : SpD} (F_law_pick : FnD K "_law_pick" "_law_pick" s_law_pick [] f_law_pick fd_law_pick) (m_law_pick : mg "_law_pick" = some (.ref f_law_pick)) (G_law_pick : FnG P w K mg base 2 f_law_pick fd_law_pick ["store", "some"] sp_law_pick)
    {f_law_draw : Addr} {fd_law_draw : FuncData} {sp_law_draw : SpD} (F_law_draw : FnD K "_law_draw" "_law_draw" s_law_draw [] f_law_draw fd_law_draw) (m_law_draw : mg "_law_draw" = some (.ref f_law_draw)) (G_law_draw : FnG P w K mg base 1 f_law_draw fd_law_draw ["store", "many"] sp_law_draw) :
    Der P w K mg base N_law_bad_turns "_law_bad_turns" sc_law_bad_turns (defBody s_law_bad_turns) 2 (t_law_bad_turns sp_law_pick sp_law_draw) := by
  intro f cdv A outer s H E hr hgd
  have nd := S_law_bad_turns.nd
  have tk : Takes (dX P w K mg base N_law_bad_turns "_law_bad_turns" sc_law_bad_turns f cdv A outer s H E) (wE E) := takes_of rfl rfl rfl rfl
  exact (dss_cons (ds_par 2 3 nd (da_cons (de_call (G_law_draw.up_ (by decide)) hr hgd tk rfl m_law_draw F_law_draw.kp (b_law_draw_p2 F_law_draw) (da_cons (de_var 0) (da_cons de_int da_nil))) (da_cons (de_cb call_len3 cd_len rfl T.z_len (by decide +kernel) (da_cons (de_var 1) da_nil)) da_nil)))
      (dss_cons (ds_set 4 nd (de_call (G_law_draw.up_ (by decide)) hr hgd tk rfl m_law_draw F_law_draw.kp (b_law_draw_p2 F_law_draw) (da_cons (de_var 0) (da_cons (de_var 3) da_nil))))
      (dss_cons (ds_set 5 nd (de_call (G_law_draw.up_ (by decide)) hr hgd tk rfl m_law_draw F_law_draw.kp (b_law_draw_p2 F_law_draw) (da_cons (de_var 0) (da_cons (de_cb call_len3 cd_len rfl T.z_len (by decide +kernel) (da_cons (de_ix ix_seq o2_ix (de_var 1) de_int) da_nil)) da_nil))))
      (dss_cons (ds_if (dt_cmp (op_eq2 hr.units) o2_eq (de_var 2) de_int)
      (dss_one (ds_ret (de_call (G_law_pick.up_ (by decide)) hr hgd tk rfl m_law_pick F_law_pick.kp (b_law_pick_p2 F_law_pick) (da_cons (de_var 0) (da_cons (de_lst (da_cons de_non (da_cons de_int (da_cons de_str (da_cons de_dic0 da_nil))))) da_nil)))))
      dss_nil)
      (dss_cons (ds_if (dt_cmp (op_eq2 hr.units) o2_eq (de_var 2) de_int)
      (dss_one (ds_ret (de_op op_add4 o2_add (de_var 1) (de_lst (da_cons (de_ix ix_seq o2_ix (de_var 1) (de_var 4)) da_nil)))))
      dss_nil)
      (dss_cons (ds_if (dt_cmp (op_eq2 hr.units) o2_eq (de_var 2) de_int)
      (dss_one (ds_ret (de_sl (de_var 1) do_none (do_some (de_op op_sub o2_sub (de_var 3) de_int)))))
      dss_nil)
      (dss_cons (ds_if (dt_cmp (op_eq2 hr.units) o2_eq (de_var 2) de_int)
      (dss_one (ds_ret (de_lc (own := [("row", 7)]) rfl nd (di_seq (de_var 1)) (blkOk_by (own := [("row", 7)]) (N := N_law_bad_turns) (sc := sc_law_bad_turns) (by decide +kernel)) (fun _ _ _ _ _ => (gp_name (vs := [7]) nd (by decide) rfl (Or.inl rfl))) (fun _ _ _ _ _ => dts_nil) (fun _ _ _ _ _ => (de_sl (de_op op_mul3 o2_mul (de_var 7) de_int) do_none (do_some de_int))))))
      dss_nil)
      (dss_cons (ds_if (dt_cmp (op_eq2 hr.units) o2_eq (de_var 2) de_int)
      (dss_one (ds_ret (de_lc (own := [("row", 7)]) rfl nd (di_seq (de_var 1)) (blkOk_by (own := [("row", 7)]) (N := N_law_bad_turns) (sc := sc_law_bad_turns) (by decide +kernel)) (fun _ _ _ _ _ => (gp_name (vs := [7]) nd (by decide) rfl (Or.inl rfl))) (fun _ _ _ _ _ => dts_nil) (fun _ _ _ _ _ => (de_sl (de_var 7) do_none (do_some de_int))))))
      dss_nil)
      (dss_cons (ds_set 6 nd (de_call (G_law_pick.up_ (by decide)) hr hgd tk rfl m_law_pick F_law_pick.kp (b_law_pick_p2 F_law_pick) (da_cons (de_var 0) (da_cons (de_lst (da_cons de_non (da_cons de_int (da_cons de_str da_nil)))) da_nil))))
      (dss_cons (ds_if (dt_cmp (op_eq2 hr.units) o2_eq (de_var 2) de_int)
      (dss_cons (ds_set 6 nd (de_listM rfl T.z_list (by decide +kernel) (da_cons (de_ix ix_seq o2_ix (de_var 1) (de_var 4)) da_nil)))
      (dss_one (ds_setIx (de_call (G_law_pick.up_ (by decide)) hr hgd tk rfl m_law_pick F_law_pick.kp (b_law_pick_p2 F_law_pick) (da_cons (de_var 0) (da_cons (de_lst (da_cons (de_var 3) (da_cons (de_un un_neg o1_neg de_int) (da_cons de_bl (da_cons de_non (da_cons de_str (da_cons (de_tup (da_cons de_int da_nil)) da_nil))))))) da_nil))) (de_var 6) (de_var 5))))
      (dss_one (ds_if (dt_w (dw_and (dt_cmp op_gt o2_gt (de_var 3) de_int) (dw_and1 (dt_cmp (op_eq2 hr.units) o2_eq (de_call (G_law_draw.up_ (by decide)) hr hgd tk rfl m_law_draw F_law_draw.kp (b_law_draw_p2 F_law_draw) (da_cons (de_var 0) (da_cons de_int da_nil))) de_int))))
      (dss_one (ds_set 6 nd (de_if (dt_cmp op_gt o2_gt (de_cb call_len3 cd_len rfl T.z_len (by decide +kernel) (da_cons (de_ix ix_seq o2_ix (de_var 1) (de_var 4)) da_nil)) de_int) (de_sl (de_ix ix_seq o2_ix (de_var 1) (de_var 4)) (do_some de_int) do_none) (de_op op_add4 o2_add (de_ix ix_seq o2_ix (de_var 1) (de_var 4)) (de_lst (da_cons de_int da_nil))))))
      dss_nil)))
      (dss_one (ds_ret (de_op op_add4 o2_add (de_op op_add4 o2_add (de_sl (de_var 1) do_none (do_some (de_var 4))) (de_lst (da_cons (de_var 6) da_nil))) (de_sl (de_var 1) (do_some (de_op op_add4 o2_add (de_var 4) de_int)) do_none))))))))))))))
/-! ### Notebook.__init__ -/
abbrev s_Notebook___init__ : Stmt := (inClass (top 10) 0)
abbrev sc_Notebook___init__ : Scope := defScope s_Notebook___init__
abbrev N_Notebook___init__ : List Str := ["self", "moves", "turns", "row", "each"]
theorem S_Notebook___init__ : FnScope N_Notebook___init__ ["self", "moves", "turns"] sc_Notebook___init__ := ⟨rfl, rfl, rfl, by decide +kernel, rfl, by decide +kernel, by decide +kernel⟩
def mx_Notebook___init___p1_turns_moves {α : Type} (a e c : List α) : List α := match a, e, c with
  | [a0], [], [c0, c1] => [a0, c1, c0]
  | _, _, _ => []
abbrev g_Notebook___init___p1_turns_moves : List D → List D → List D := fun ds es => mx_Notebook___init___p1_turns_moves ds [] es
theorem b_Notebook___init___p1_turns_moves {K : PySem.W.Frag} {f : Addr} {fd : FuncData} (F : FnD K "__init__" "Notebook.__init__" s_Notebook___init__ [] f fd) : Bnd K fd ["self", "moves", "turns"] 1 ["turns", "moves"] g_Notebook___init___p1_turns_moves :=
  bnd0 F 1 ["turns", "moves"] mx_Notebook___init___p1_turns_moves (fun {α β R a c b d'} ra la rc lc => by
      match a, b, ra, la, c, d', rc, lc with
      | _, _, (.cons a0 .nil), _, _, _, (.cons c0 (.cons c1 .nil)), _ => exact (.cons a0 (.cons c1 (.cons c0 .nil))))
    (fun kV doc pm an cdv ct us ws h1 h2 => by
      match us, h1, ws, h2 with
      | [a0], _, [c0, c1], _ => rfl)
def mx_Notebook___init___p3 {α : Type} (a e c : List α) : List α := match a, e, c with
  | [a0, a1, a2], [], [] => [a0, a1, a2]
  | _, _, _ => []
abbrev g_Notebook___init___p3 : List D → List D → List D := fun ds es => mx_Notebook___init___p3 ds [] es
theorem b_Notebook___init___p3 {K : PySem.W.Frag} {f : Addr} {fd : FuncData} (F : FnD K "__init__" "Notebook.__init__" s_Notebook___init__ [] f fd) : Bnd K fd ["self", "moves", "turns"] 3 [] g_Notebook___init___p3 :=
  bnd0 F 3 [] mx_Notebook___init___p3 (fun {α β R a c b d'} ra la rc lc => by
      match a, b, ra, la, c, d', rc, lc with
      | _, _, (.cons a0 (.cons a1 (.cons a2 .nil))), _, _, _, .nil, _ => exact (.cons a0 (.cons a1 (.cons a2 .nil))))
    (fun kV doc pm an cdv ct us ws h1 h2 => by
      match us, h1, ws, h2 with
      | [a0, a1, a2], _, [], _ => rfl)
def t_Notebook___init__ (K : PySem.W.Frag) (sp_are_turns : SpD) (sp_is_within : SpD) (sp_is_list : SpD) : TDS :=
    (dSeq (dIfS (dOr (dNot (dTst (dCall sp_is_list 1 0 g_is_list_p1 (dCons (dVar 1) dNil) dNil))) (dNot (dTst (dChain fLe fLe (dC (.int 1)) (dCB fLen (dCons (dVar 1) dNil)) (dC (.int 4))))))
    (dRaise1 (He.ga K "BadNotebook") "part" (dC (.str "moves")))
    dNext)
    (dSeq (dIfS (dNot (dTst (dCB fAll (dCons (dLc (dISeq (dVar 1)) (gN 4) dYes (dOrV (dBin fIsN (dVar 4) (dC .non)) (dCall sp_is_within 3 0 g_is_within_p3 (dCons (dVar 4) (dCons (dC (.int 0)) (dCons (dBin fSub (dC (.int 4)) (dC (.int 1))) dNil))) dNil)) [4]) dNil))))
    (dRaise1 (He.ga K "BadNotebook") "part" (dC (.str "moves")))
    dNext)
    (dSeq (dIfS (dOr (dNot (dTst (dCall sp_are_turns 2 0 g_are_turns_p2 (dCons (dVar 2) (dCons (dCB fLen (dCons (dVar 1) dNil)) dNil)) dNil))) (dNot (dTst (dCB fAll (dCons (dLc (dISeq (dVar 1)) (gN 4) dYes (dOrV (dBin fIsN (dVar 4) (dC .non)) (dBin fLt (dVar 4) (dCB fLen (dCons (dBin fIx (dVar 2) (dC (.int 0))) dNil)))) [4]) dNil)))))
    (dRaise1 (He.ga K "BadNotebook") "part" (dC (.str "turns")))
    dNext)
    (dSeq (dSetFld K "moves" (dCB fTuple (dCons (dVar 1) dNil)) (dVar 0))
    (dSeq (dSetFld K "turns" (dCB fTuple (dCons (dLc (dISeq (dVar 2)) (gN 3) dYes (dCB fTuple (dCons (dVar 3) dNil)) [3]) dNil)) (dVar 0))
    (dSetFld K "letters" (dCB fLen (dCons (dBin fIx (dVar 2) (dC (.int 0))) dNil)) (dVar 0)))))))
theorem der_Notebook___init__ {P : Program} {w : World} {K : PySem.W.Frag} {mg : Str → Option Value} {base : Heap} (T : Facts K mg)
    {f_are_turns : Addr} {fd_are_turns : FuncData} {sp_are_turns : SpD} (F_are_turns : FnD K "are_turns" "are_turns" s_are_turns [] f_are_turns fd_are_turns) (m_are_turns : mg "are_turns" = some (.ref f_are_turns)) (G_are_turns : FnG P w K mg base 3 f_are_turns fd_are_turns ["value", "pages"] sp_are_turns)
    {f_is_within : Addr} {fd_is_within : FuncData} {sp_is_within : SpD} (F_is_within : FnD K "is_within" "is_within" s_is_within [] f_is_within fd_is_within) (m_is_within : mg "is_within" = some (.ref f_is_within)) (G_is_within : FnG P w K mg base 2 f_is_within fd_is_within ["value", "least", "most"] sp_is_within)
    {f_is_list : Addr} {fd_is_list : FuncData} {sp_is_list : SpD} (F_is_list : FnD K "is_list" "is_list" s_is_list [] f_is_list fd_is_list) (m_is_list : mg "is_list" = some (.ref f_is_list)) (G_is_list : FnG P w K mg base 1 f_is_list fd_is_list ["value"] sp_is_list)
    (e_BadNotebook : Err1 P w K mg base "BadNotebook" "part") :
    Der P w K mg base N_Notebook___init__ "Notebook.__init__" sc_Notebook___init__ (defBody s_Notebook___init__) 3 (t_Notebook___init__ K sp_are_turns sp_is_within sp_is_list) := by
  intro f cdv A outer s H E hr hgd
  have nd := S_Notebook___init__.nd
  have tk : Takes (dX P w K mg base N_Notebook___init__ "Notebook.__init__" sc_Notebook___init__ f cdv A outer s H E) (wE E) := takes_of rfl rfl rfl rfl
  exact (dss_cons (ds_if (dt_w (dw_or (dt_not (dt_val (de_call (G_is_list.up_ (by decide)) hr hgd tk rfl m_is_list F_is_list.kp (b_is_list_p1 F_is_list) (da_cons (de_var 1) da_nil)))) (dw_or1 (dt_not (dt_chain op_le op_le o2_le o2_le de_int (de_cb call_len3 cd_len rfl T.z_len (by decide +kernel) (da_cons (de_var 1) da_nil)) (de_globI rfl T.c_MOST_PAGES))))))
      (dss_one (ds_raiseE1 e_BadNotebook rfl tk (hr.mono (by decide)) rfl de_str))
      dss_nil)
      (dss_cons (ds_if (dt_not (dt_val (de_cb (cr_all rfl) cd_all rfl T.z_all (by decide +kernel) (da_cons (de_lc (own := [("each", 4)]) rfl nd (di_seq (de_var 1)) (blkOk_by (own := [("each", 4)]) (N := N_Notebook___init__) (sc := sc_Notebook___init__) (by decide +kernel)) (fun _ _ _ _ _ => (gp_name (vs := [4]) nd (by decide) rfl (Or.inl rfl))) (fun _ _ _ _ _ => dts_nil) (fun _ _ _ _ _ => (de_or (de_cmp op_isN o2_isN (de_var 4) de_non) (de_one (de_call (G_is_within.up_ (by decide)) hr hgd takes0 rfl m_is_within F_is_within.kp (b_is_within_p3 F_is_within) (da_cons (de_var 4) (da_cons de_int (da_cons (de_op op_sub o2_sub (de_globI rfl T.c_MOST_LETTERS) de_int) da_nil)))))))) da_nil))))
      (dss_one (ds_raiseE1 e_BadNotebook rfl tk (hr.mono (by decide)) rfl de_str))
      dss_nil)
      (dss_cons (ds_if (dt_w (dw_or (dt_not (dt_val (de_call (G_are_turns.up_ (by decide)) hr hgd tk rfl m_are_turns F_are_turns.kp (b_are_turns_p2 F_are_turns) (da_cons (de_var 2) (da_cons (de_cb call_len3 cd_len rfl T.z_len (by decide +kernel) (da_cons (de_var 1) da_nil)) da_nil))))) (dw_or1 (dt_not (dt_val (de_cb (cr_all rfl) cd_all rfl T.z_all (by decide +kernel) (da_cons (de_lc (own := [("each", 4)]) rfl nd (di_seq (de_var 1)) (blkOk_by (own := [("each", 4)]) (N := N_Notebook___init__) (sc := sc_Notebook___init__) (by decide +kernel)) (fun _ _ _ _ _ => (gp_name (vs := [4]) nd (by decide) rfl (Or.inl rfl))) (fun _ _ _ _ _ => dts_nil) (fun _ _ _ _ _ => (de_or (de_cmp op_isN o2_isN (de_var 4) de_non) (de_one (de_cmp op_lt o2_lt (de_var 4) (de_cb call_len3 cd_len rfl T.z_len (by decide +kernel) (da_cons (de_ix ix_seq o2_ix (de_var 2) de_int) da_nil))))))) da_nil)))))))
      (dss_one (ds_raiseE1 e_BadNotebook rfl tk (hr.mono (by decide)) rfl de_str))
      dss_nil)
      (dss_cons (ds_setFld (de_ct call_tuple_of cd_tuple rfl T.z_tuple (by decide +kernel) (da_cons (de_var 1) da_nil)) (de_var 0))
      (dss_cons (ds_setFld (de_ct call_tuple_of cd_tuple rfl T.z_tuple (by decide +kernel) (da_cons (de_lc (own := [("row", 3)]) rfl nd (di_seq (de_var 2)) (blkOk_by (own := [("row", 3)]) (N := N_Notebook___init__) (sc := sc_Notebook___init__) (by decide +kernel)) (fun _ _ _ _ _ => (gp_name (vs := [3]) nd (by decide) rfl (Or.inl rfl))) (fun _ _ _ _ _ => dts_nil) (fun _ _ _ _ _ => (de_ct call_tuple_of cd_tuple rfl T.z_tuple (by decide +kernel) (da_cons (de_var 3) da_nil)))) da_nil)) (de_var 0))
      (dss_one (ds_setFld (de_cb call_len3 cd_len rfl T.z_len (by decide +kernel) (da_cons (de_ix ix_seq o2_ix (de_var 2) de_int) da_nil)) (de_var 0))))))))
/-! ### _law_made -/
abbrev s_law_made : Stmt := (top 16)
abbrev sc_law_made : Scope := defScope s_law_made
abbrev N_law_made : List Str := ["acts", "turned", "named", "found", "error"]
theorem S_law_made : FnScope N_law_made ["acts", "turned", "named"] sc_law_made := ⟨rfl, rfl, rfl, by decide +kernel, rfl, by decide +kernel, by decide +kernel⟩
def mx_law_made_p3 {α : Type} (a e c : List α) : List α := match a, e, c with
  | [a0, a1, a2], [], [] => [a0, a1, a2]
  | _, _, _ => []
abbrev g_law_made_p3 : List D → List D → List D := fun ds es => mx_law_made_p3 ds [] es
theorem b_law_made_p3 {K : PySem.W.Frag} {f : Addr} {fd : FuncData} (F : FnD K "_law_made" "_law_made" s_law_made [] f fd) : Bnd K fd ["acts", "turned", "named"] 3 [] g_law_made_p3 :=
  bnd0 F 3 [] mx_law_made_p3 (fun {α β R a c b d'} ra la rc lc => by
      match a, b, ra, la, c, d', rc, lc with
      | _, _, (.cons a0 (.cons a1 (.cons a2 .nil))), _, _, _, .nil, _ => exact (.cons a0 (.cons a1 (.cons a2 .nil))))
    (fun kV doc pm an cdv ct us ws h1 h2 => by
      match us, h1, ws, h2 with
      | [a0, a1, a2], _, [], _ => rfl)
def t_law_made (K : PySem.W.Frag) (sp_Notebook___init__ : SpD) : TDS :=
    (dSeq (dAsg (dC .non) (gN 3))
    (dSeq (dTryAs K (.ref (He.ga K "BadNotebook")) 4
    (dAsg (dIf (dTru (dVar 2)) (dMake (He.ga K "Notebook") sp_Notebook___init__ 0 2 g_Notebook___init___p1_turns_moves dNil (dCons (dVar 1) (dCons (dVar 0) dNil))) (dMake (He.ga K "Notebook") sp_Notebook___init__ 2 0 g_Notebook___init___p3 (dCons (dVar 0) (dCons (dVar 1) dNil)) dNil)) (gN 3))
    (fun a cls d => (dAsg (dTup (dCons (dXf a cls d (He.ga K "BadNotebook") "part" (dVar 4)) dNil)) (gN 3))))
    (dRet (dVar 3))))
theorem der_law_made {P : Program} {w : World} {K : PySem.W.Frag} {mg : Str → Option Value} {base : Heap} (T : Facts K mg)
    {f_Notebook___init__ : Addr} {fd_Notebook___init__ : FuncData} {sp_Notebook___init__ : SpD} (F_Notebook___init__ : FnD K "__init__" "Notebook.__init__" s_Notebook___init__ [] f_Notebook___init__ fd_Notebook___init__) (M_Notebook___init__ : Mk K (He.ga K "Notebook") f_Notebook___init__) (G_Notebook___init__ : FnG P w K mg base 4 f_Notebook___init__ fd_Notebook___init__ ["self", "moves", "turns"] sp_Notebook___init__) :
    Der P w K mg base N_law_made "_law_made" sc_law_made (defBody s_law_made) 5 (t_law_made K sp_Notebook___init__) := by
  intro f cdv A outer s H E hr hgd
  have nd := S_law_made.nd
  have tk : Takes (dX P w K mg base N_law_made "_law_made" sc_law_made f cdv A outer s H E) (wE E) := takes_of rfl rfl rfl rfl
  have po : PassesOwn (model P w) (dX P w K mg base N_law_made "_law_made" sc_law_made f cdv A outer s H E).A (dX P w K mg base N_law_made "_law_made" sc_law_made f cdv A outer s H E).env (dX P w K mg base N_law_made "_law_made" sc_law_made f cdv A outer s H E).xe := passes_of rfl
  exact (dss_cons (ds_set 3 nd de_non)
      (dss_cons (ds_tryAs (i := 4) rfl rfl nd rfl rfl ⟨rfl, by decide, Or.inl T.m_BadNotebook⟩ tk (fun W' pn xe tk po => (dss_one (ds_set 3 nd (de_if (dt_tru (de_var 2)) (de_makeN (ks := ["turns", "moves"]) (M_Notebook___init__) (G_Notebook___init__.up_ (by decide)) hr hgd tk rfl T.m_Notebook (b_Notebook___init___p1_turns_moves F_Notebook___init__) (dk_cons (de_var 1) (dk_cons (de_var 0) dk_nil))) (de_make (M_Notebook___init__) (G_Notebook___init__.up_ (by decide)) hr hgd tk rfl T.m_Notebook (b_Notebook___init___p3 F_Notebook___init__) (da_cons (de_var 0) (da_cons (de_var 1) da_nil)))))))
      (fun a oe cls d pn hz hf => (dss_one (ds_set 3 nd (de_tup (da_cons (de_xf T.xf_BadNotebook T.na_BadNotebook_part hz hf (de_var 4)) da_nil))))))
      (dss_one (ds_ret (de_var 3)))))
/-! ### law -/
abbrev s_law : Stmt := (top 21)
abbrev sc_law : Scope := defScope s_law
abbrev N_law : List Str := ["script", "store", "lap", "many", "wide", "acts", "kept", "rows", "some", "lines", "told", "again", "place", "index", "other", "k", "move", "j", "row"]
theorem S_law : FnScope N_law ["script"] sc_law := ⟨rfl, rfl, rfl, by decide +kernel, rfl, by decide +kernel, by decide +kernel⟩
def t_law (K : PySem.W.Frag) (sp_law_made : SpD) (sp_law_copied : SpD) (sp_law_draw : SpD) (sp_law_bad_turns : SpD) (sp_law_pick : SpD) (sp_law_bad_moves : SpD) (sp_law_is_same : SpD) (sp_Notebook___eq__ : SpD) (sp_law_store : SpD) : TDS :=
    (dSeq (dAsg (dCall sp_law_store 1 0 g_law_store_p1 (dCons (dVar 0) dNil) dNil) (gN 1))
    (dSeq (dFor (dIRng1 (dCons (dC (.int 3)) dNil)) (gN 2)
    (dSeq (dAsg (dTup (dCons (dBin fAdd (dC (.int 1)) (dCall sp_law_draw 2 0 g_law_draw_p2 (dCons (dVar 1) (dCons (dC (.int 4)) dNil)) dNil)) (dCons (dBin fAdd (dC (.int 2)) (dCall sp_law_draw 2 0 g_law_draw_p2 (dCons (dVar 1) (dCons (dC (.int 3)) dNil)) dNil)) dNil))) (gTu (gCn (gN 3) (gCn (gN 4) gNl))))
    (dSeq (dAsg (dLc (dIRng1 (dCons (dVar 3) dNil)) (gN 15) dYes (dCall sp_law_draw 2 0 g_law_draw_p2 (dCons (dVar 1) (dCons (dBin fMul (dC (.int 2)) (dVar 4)) dNil)) dNil) [15]) (gN 5))
    (dSeq (dAsg (dLc (dISeq (dVar 5)) (gN 16) dYes (dIf (dTst (dBin fLt (dVar 16) (dVar 4))) (dVar 16) (dC .non)) [16]) (gN 6))
    (dSeq (dAsg (dLc (dIRng1 (dCons (dVar 3) dNil)) (gN 15) dYes (dLc (dIRng1 (dCons (dVar 4) dNil)) (gN 17) dYes (dCall sp_law_draw 2 0 g_law_draw_p2 (dCons (dVar 1) (dCons (dVar 3) dNil)) dNil) [17]) [15]) (gN 7))
    (dSeq (dPar 8 9 (dCons (dListM (dCons (dVar 6) dNil)) (dCons (dLcM (dISeq (dVar 7)) (gN 18) dYes (dListM (dCons (dVar 18) dNil)) [18]) dNil)))
    (dSeq (dAsg (dCall sp_law_made 3 0 g_law_made_p3 (dCons (dVar 8) (dCons (dVar 9) (dCons (dBin fEq (dCall sp_law_draw 2 0 g_law_draw_p2 (dCons (dVar 1) (dCons (dC (.int 2)) dNil)) dNil) (dC (.int 0))) dNil))) dNil) (gN 10))
    (dSeq (dIfS (dNot (dTst (dCall sp_law_is_same 3 0 g_law_is_same_p3 (dCons (dVar 10) (dCons (dVar 6) (dCons (dVar 7) dNil))) dNil)))
    (dRet (dC (.bl false)))
    dNext)
    (dSeq (dSetIx (dIf (dTst (dBin fIsN (dBin fIx (dVar 6) (dC (.int 0))) (dC .non))) (dC (.int 0)) (dC .non)) (dVar 8) (dC (.int 0)))
    (dSeq (dSetIx (dC (.int 7)) (dBin fIx (dVar 9) (dBin fSub (dVar 3) (dC (.int 1)))) (dC (.int 0)))
    (dSeq (dApp (dVar 9) (dLst dNil))
    (dSeq (dIfS (dNot (dTst (dCall sp_law_is_same 3 0 g_law_is_same_p3 (dCons (dVar 10) (dCons (dVar 6) (dCons (dVar 7) dNil))) dNil)))
    (dRet (dC (.bl false)))
    dNext)
    (dSeq (dAsg (dCall sp_law_made 3 0 g_law_made_p3 (dCons (dCB fTuple (dCons (dVar 6) dNil)) (dCons (dCall sp_law_copied 2 0 g_law_copied_p2 (dCons (dVar 1) (dCons (dVar 7) dNil)) dNil) (dCons (dBin fEq (dCall sp_law_draw 2 0 g_law_draw_p2 (dCons (dVar 1) (dCons (dC (.int 2)) dNil)) dNil) (dC (.int 0))) dNil))) dNil) (gN 11))
    (dSeq (dIfS (dOr (dNot (dTst (dCall sp_law_is_same 3 0 g_law_is_same_p3 (dCons (dVar 11) (dCons (dVar 6) (dCons (dVar 7) dNil))) dNil))) (dOr (dNot (dTst (dEqO K (He.ga K "Notebook") false sp_Notebook___eq__ g_Notebook___eq___p2 (dVar 11) (dVar 10)))) (dOr (dTst (dEqO K (He.ga K "Notebook") true sp_Notebook___eq__ g_Notebook___eq___p2 (dVar 11) (dVar 10))) (dTst (dEqO K (He.ga K "Notebook") false sp_Notebook___eq__ g_Notebook___eq___p2 (dVar 10) (dTup (dCons (dFld K "moves" (dVar 10)) (dCons (dFld K "turns" (dVar 10)) dNil))))))))
    (dRet (dC (.bl false)))
    dNext)
    (dSeq (dPar 12 13 (dCons (dCall sp_law_draw 2 0 g_law_draw_p2 (dCons (dVar 1) (dCons (dVar 3) dNil)) dNil) (dCons (dCall sp_law_draw 2 0 g_law_draw_p2 (dCons (dVar 1) (dCons (dVar 4) dNil)) dNil) dNil)))
    (dSeq (dAsg (dListM (dCons (dVar 6) dNil)) (gN 8))
    (dSeq (dSetIx (dIf (dTst (dBin fIsN (dBin fIx (dVar 6) (dVar 12)) (dC .non))) (dVar 13) (dC .non)) (dVar 8) (dVar 12))
    (dSeq (dAsg (dCall sp_law_made 3 0 g_law_made_p3 (dCons (dVar 8) (dCons (dVar 7) (dCons (dC (.bl false)) dNil))) dNil) (gN 14))
    (dSeq (dIfS (dOr (dNot (dTst (dCall sp_law_is_same 3 0 g_law_is_same_p3 (dCons (dVar 14) (dCons (dVar 8) (dCons (dVar 7) dNil))) dNil))) (dOr (dTst (dEqO K (He.ga K "Notebook") false sp_Notebook___eq__ g_Notebook___eq___p2 (dVar 14) (dVar 10))) (dNot (dTst (dEqO K (He.ga K "Notebook") true sp_Notebook___eq__ g_Notebook___eq___p2 (dVar 14) (dVar 10))))))
    (dRet (dC (.bl false)))
    dNext)
    (dSeq (dIfS (dTst (dBin fGt (dVar 3) (dC (.int 1))))
    (dSeq (dAsg (dLcM (dISeq (dVar 7)) (gN 18) dYes (dListM (dCons (dVar 18) dNil)) [18]) (gN 9))
    (dSeq (dSetIx (dBin fMod (dCB fInt (dCons (dBin fAdd (dBin fIx (dBin fIx (dVar 7) (dVar 12)) (dVar 13)) (dC (.int 1))) dNil)) (dVar 3)) (dBin fIx (dVar 9) (dVar 12)) (dVar 13))
    (dSeq (dAsg (dCall sp_law_made 3 0 g_law_made_p3 (dCons (dVar 6) (dCons (dVar 9) (dCons (dC (.bl true)) dNil))) dNil) (gN 14))
    (dIfS (dOr (dNot (dTst (dCall sp_law_is_same 3 0 g_law_is_same_p3 (dCons (dVar 14) (dCons (dVar 6) (dCons (dVar 9) dNil))) dNil))) (dOr (dTst (dEqO K (He.ga K "Notebook") false sp_Notebook___eq__ g_Notebook___eq___p2 (dVar 14) (dVar 10))) (dNot (dTst (dEqO K (He.ga K "Notebook") true sp_Notebook___eq__ g_Notebook___eq___p2 (dVar 14) (dVar 10))))))
    (dRet (dC (.bl false)))
    dNext))))
    dNext)
    (dSeq (dIfS (dTst (dBin fNe (dCall sp_law_made 3 0 g_law_made_p3 (dCons (dCall sp_law_bad_moves 2 0 g_law_bad_moves_p2 (dCons (dVar 1) (dCons (dVar 6) dNil)) dNil) (dCons (dCall sp_law_pick 2 0 g_law_pick_p2 (dCons (dVar 1) (dCons (dLst (dCons (dVar 7) (dCons (dC .non) (dCons (dLst dNil) dNil)))) dNil)) dNil) (dCons (dBin fEq (dCall sp_law_draw 2 0 g_law_draw_p2 (dCons (dVar 1) (dCons (dC (.int 2)) dNil)) dNil) (dC (.int 0))) dNil))) dNil) (dTup (dCons (dC (.str "moves")) dNil))))
    (dRet (dC (.bl false)))
    dNext)
    (dSeq (dIfS (dTst (dBin fNe (dCall sp_law_made 3 0 g_law_made_p3 (dCons (dVar 6) (dCons (dCall sp_law_bad_turns 2 0 g_law_bad_turns_p2 (dCons (dVar 1) (dCons (dVar 7) dNil)) dNil) (dCons (dBin fEq (dCall sp_law_draw 2 0 g_law_draw_p2 (dCons (dVar 1) (dCons (dC (.int 2)) dNil)) dNil) (dC (.int 0))) dNil))) dNil) (dTup (dCons (dC (.str "turns")) dNil))))
    (dRet (dC (.bl false)))
    dNext)
    (dIfS (dTst (dBin fLt (dVar 4) (dC (.int 4))))
    (dSeq (dAsg (dListM (dCons (dVar 6) dNil)) (gN 8))
    (dSeq (dSetIx (dBin fAdd (dVar 4) (dCall sp_law_draw 2 0 g_law_draw_p2 (dCons (dVar 1) (dCons (dBin fSub (dC (.int 4)) (dVar 4)) dNil)) dNil)) (dVar 8) (dVar 12))
    (dIfS (dTst (dBin fNe (dCall sp_law_made 3 0 g_law_made_p3 (dCons (dVar 8) (dCons (dCall sp_law_copied 2 0 g_law_copied_p2 (dCons (dVar 1) (dCons (dVar 7) dNil)) dNil) (dCons (dC (.bl false)) dNil))) dNil) (dTup (dCons (dC (.str "turns")) dNil))))
    (dRet (dC (.bl false)))
    dNext)))
    dNext)))))))))))))))))))))))
    (dRet (dC (.bl true)))))
theorem der_law {P : Program} {w : World} {K : PySem.W.Frag} {mg : Str → Option Value} {base : Heap} (T : Facts K mg)
    {f_law_made : Addr} {fd_law_made : FuncData} {sp_law_made : SpD} (F_law_made : FnD K "_law_made" "_law_made" s_law_made [] f_law_made fd_law_made) (m_law_made : mg "_law_made" = some (.ref f_law_made)) (G_law_made : FnG P w K mg base 6 f_law_made fd_law_made ["acts", "turned", "named"] sp_law_made)
    {f_law_copied : Addr} {fd_law_copied : FuncData} {sp_law_copied : SpD} (F_law_copied : FnD K "_law_copied" "_law_copied" s_law_copied [] f_law_copied fd_law_copied) (m_law_copied : mg "_law_copied" = some (.ref f_law_copied)) (G_law_copied : FnG P w K mg base 2 f_law_copied fd_law_copied ["store", "rows"] sp_law_copied)
    {f_law_draw : Addr} {fd_law_draw : FuncData} {sp_law_draw : SpD} (F_law_draw : FnD K "_law_draw" "_law_draw" s_law_draw [] f_law_draw fd_law_draw) (m_law_draw : mg "_law_draw" = some (.ref f_law_draw)) (G_law_draw : FnG P w K mg base 1 f_law_draw fd_law_draw ["store", "many"] sp_law_draw)
    {f_law_bad_turns : Addr} {fd_law_bad_turns : FuncData} {sp_law_bad_turns : SpD} (F_law_bad_turns : FnD K "_law_bad_turns" "_law_bad_turns" s_law_bad_turns [] f_law_bad_turns fd_law_bad_turns) (m_law_bad_turns : mg "_law_bad_turns" = some (.ref f_law_bad_turns)) (G_law_bad_turns : FnG P w K mg base 3 f_law_bad_turns fd_law_bad_turns ["store", "rows"] sp_law_bad_turns)
    {f_law_pick : Addr} {fd_law_pick : FuncData} {sp_law_pick : SpD} (F_law_pick : FnD K "_law_pick" "_law_pick" s_law_pick [] f_law_pick fd_law_pick) (m_law_pick : mg "_law_pick" = some (.ref f_law_pick)) (G_law_pick : FnG P w K mg base 2 f_law_pick fd_law_pick ["store", "some"] sp_law_pick)
    {f_law_bad_moves : Addr} {fd_law_bad_moves : FuncData} {sp_law_bad_moves : SpD} (F_law_bad_moves : FnD K "_law_bad_moves" "_law_bad_moves" s_law_bad_moves [] f_law_bad_moves fd_law_bad_moves) (m_law_bad_moves : mg "_law_bad_moves" = some (.ref f_law_bad_moves)) (G_law_bad_moves : FnG P w K mg base 3 f_law_bad_moves fd_law_bad_moves ["store", "acts"] sp_law_bad_moves)
    {f_law_is_same : Addr} {fd_law_is_same : FuncData} {sp_law_is_same : SpD} (F_law_is_same : FnD K "_law_is_same" "_law_is_same" s_law_is_same [] f_law_is_same fd_law_is_same) (m_law_is_same : mg "_law_is_same" = some (.ref f_law_is_same)) (G_law_is_same : FnG P w K mg base 1 f_law_is_same fd_law_is_same ["told", "acts", "rows"] sp_law_is_same)
    {f_Notebook___eq__ : Addr} {fd_Notebook___eq__ : FuncData} {sp_Notebook___eq__ : SpD} (F_Notebook___eq__ : FnD K "__eq__" "Notebook.__eq__" s_Notebook___eq__ [] f_Notebook___eq__ fd_Notebook___eq__) (E_Notebook___eq__ : EqCls K (He.ga K "Notebook") f_Notebook___eq__) (G_Notebook___eq__ : FnG P w K mg base 1 f_Notebook___eq__ fd_Notebook___eq__ ["self", "other"] sp_Notebook___eq__)
    {f_law_store : Addr} {fd_law_store : FuncData} {sp_law_store : SpD} (F_law_store : FnD K "_law_store" "_law_store" s_law_store [] f_law_store fd_law_store) (m_law_store : mg "_law_store" = some (.ref f_law_store)) (G_law_store : FnG P w K mg base 1 f_law_store fd_law_store ["script"] sp_law_store) :
    Der P w K mg base N_law "law" sc_law (defBody s_law) 6 (t_law K sp_law_made sp_law_copied sp_law_draw sp_law_bad_turns sp_law_pick sp_law_bad_moves sp_law_is_same sp_Notebook___eq__ sp_law_store) := by
  intro f cdv A outer s H E hr hgd
  have nd := S_law.nd
  have tk : Takes (dX P w K mg base N_law "law" sc_law f cdv A outer s H E) (wE E) := takes_of rfl rfl rfl rfl
  have po : PassesOwn (model P w) (dX P w K mg base N_law "law" sc_law f cdv A outer s H E).A (dX P w K mg base N_law "law" sc_law f cdv A outer s H E).env (dX P w K mg base N_law "law" sc_law f cdv A outer s H E).xe := passes_of rfl
  exact (dss_cons (ds_set 1 nd (de_call (G_law_store.up_ (by decide)) hr hgd tk rfl m_law_store F_law_store.kp (b_law_store_p1 F_law_store) (da_cons (de_var 0) da_nil)))
      (dss_cons (ds_for po rfl (di_rng1 rfl T.z_range (da_cons de_int da_nil)) (gp_name (vs := [2]) nd (by decide) rfl (Or.inl rfl))
      (dss_cons (ds_asg (de_tup (da_cons (de_op op_add4 o2_add de_int (de_call (G_law_draw.up_ (by decide)) hr hgd tk rfl m_law_draw F_law_draw.kp (b_law_draw_p2 F_law_draw) (da_cons (de_var 1) (da_cons de_int da_nil)))) (da_cons (de_op op_add4 o2_add de_int (de_call (G_law_draw.up_ (by decide)) hr hgd tk rfl m_law_draw F_law_draw.kp (b_law_draw_p2 F_law_draw) (da_cons (de_var 1) (da_cons de_int da_nil)))) da_nil))) (gp_tup rfl (gps_cons (gp_name (vs := [3, 4]) nd (by decide) rfl (Or.inr rfl)) (gps_cons (gp_name (vs := [3, 4]) nd (by decide) rfl (Or.inr rfl)) gps_nil)) (gcn_len (gcn_len gnl_len gn_go) gn_go)))
      (dss_cons (ds_setLc (i := 5) (own := [("k", 15)]) rfl nd (di_rng1 rfl T.z_range (da_cons (de_var 3) da_nil)) (blkOk_by (own := [("k", 15)]) (N := N_law) (sc := sc_law) (by decide +kernel)) (fun _ _ _ _ _ => (gp_name (vs := [15]) nd (by decide) rfl (Or.inl rfl))) (fun _ _ _ _ _ => dts_nil) (fun _ _ _ _ _ => (de_call (G_law_draw.up_ (by decide)) hr hgd takes0 rfl m_law_draw F_law_draw.kp (b_law_draw_p2 F_law_draw) (da_cons (de_var 1) (da_cons (de_op op_mul3 o2_mul de_int (de_var 4)) da_nil)))))
      (dss_cons (ds_setLc (i := 6) (own := [("move", 16)]) rfl nd (di_seq (de_var 5)) (blkOk_by (own := [("move", 16)]) (N := N_law) (sc := sc_law) (by decide +kernel)) (fun _ _ _ _ _ => (gp_name (vs := [16]) nd (by decide) rfl (Or.inl rfl))) (fun _ _ _ _ _ => dts_nil) (fun _ _ _ _ _ => (de_if (dt_cmp op_lt o2_lt (de_var 16) (de_var 4)) (de_var 16) de_non)))
      (dss_cons (ds_setLc (i := 7) (own := [("k", 15)]) rfl nd (di_rng1 rfl T.z_range (da_cons (de_var 3) da_nil)) (blkOk_by (own := [("k", 15)]) (N := N_law) (sc := sc_law) (by decide +kernel)) (fun _ _ _ _ _ => (gp_name (vs := [15]) nd (by decide) rfl (Or.inl rfl))) (fun _ _ _ _ _ => dts_nil) (fun _ _ _ _ _ => (de_lc (own := [("j", 17)]) rfl nd (di_rng1 rfl T.z_range (da_cons (de_var 4) da_nil)) (blkOk_in (sc0 := sc_law) (own := [("j", 17)]) (N := N_law) rfl (by decide +kernel)) (fun _ _ _ _ _ => (gp_name (vs := [17]) nd (by decide) rfl (Or.inl rfl))) (fun _ _ _ _ _ => dts_nil) (fun _ _ _ _ _ => (de_call (G_law_draw.up_ (by decide)) hr hgd takes0 rfl m_law_draw F_law_draw.kp (b_law_draw_p2 F_law_draw) (da_cons (de_var 1) (da_cons (de_var 3) da_nil)))))))
      (dss_cons (ds_par 8 9 nd (da_cons (de_listM rfl T.z_list (by decide +kernel) (da_cons (de_var 6) da_nil)) (da_cons (de_lcM (own := [("row", 18)]) rfl nd (di_seq (de_var 7)) (blkOk_by (own := [("row", 18)]) (N := N_law) (sc := sc_law) (by decide +kernel)) (fun _ _ _ _ _ => (gp_name (vs := [18]) nd (by decide) rfl (Or.inl rfl))) (fun _ _ _ _ _ => dts_nil) (fun _ _ _ _ _ => (de_listM rfl T.z_list (by decide +kernel) (da_cons (de_var 18) da_nil)))) da_nil)))
      (dss_cons (ds_set 10 nd (de_call (G_law_made.up_ (by decide)) hr hgd tk rfl m_law_made F_law_made.kp (b_law_made_p3 F_law_made) (da_cons (de_var 8) (da_cons (de_var 9) (da_cons (de_cmp (op_eq2 hr.units) o2_eq (de_call (G_law_draw.up_ (by decide)) hr hgd tk rfl m_law_draw F_law_draw.kp (b_law_draw_p2 F_law_draw) (da_cons (de_var 1) (da_cons de_int da_nil))) de_int) da_nil)))))
      (dss_cons (ds_if (dt_not (dt_val (de_call (G_law_is_same.up_ (by decide)) hr hgd tk rfl m_law_is_same F_law_is_same.kp (b_law_is_same_p3 F_law_is_same) (da_cons (de_var 10) (da_cons (de_var 6) (da_cons (de_var 7) da_nil))))))
      (dss_one (ds_ret de_bl))
      dss_nil)
      (dss_cons (ds_setIx (de_if (dt_cmp op_isN o2_isN (de_ix ix_seq o2_ix (de_var 6) de_int) de_non) de_int de_non) (de_var 8) de_int)
      (dss_cons (ds_setIx de_int (de_ix ix_seq o2_ix (de_var 9) (de_op op_sub o2_sub (de_var 3) de_int)) de_int)
      (dss_cons (ds_app (de_var 9) (de_lst da_nil))
      (dss_cons (ds_if (dt_not (dt_val (de_call (G_law_is_same.up_ (by decide)) hr hgd tk rfl m_law_is_same F_law_is_same.kp (b_law_is_same_p3 F_law_is_same) (da_cons (de_var 10) (da_cons (de_var 6) (da_cons (de_var 7) da_nil))))))
      (dss_one (ds_ret de_bl))
      dss_nil)
      (dss_cons (ds_set 11 nd (de_call (G_law_made.up_ (by decide)) hr hgd tk rfl m_law_made F_law_made.kp (b_law_made_p3 F_law_made) (da_cons (de_ct call_tuple_of cd_tuple rfl T.z_tuple (by decide +kernel) (da_cons (de_var 6) da_nil)) (da_cons (de_call (G_law_copied.up_ (by decide)) hr hgd tk rfl m_law_copied F_law_copied.kp (b_law_copied_p2 F_law_copied) (da_cons (de_var 1) (da_cons (de_var 7) da_nil))) (da_cons (de_cmp (op_eq2 hr.units) o2_eq (de_call (G_law_draw.up_ (by decide)) hr hgd tk rfl m_law_draw F_law_draw.kp (b_law_draw_p2 F_law_draw) (da_cons (de_var 1) (da_cons de_int da_nil))) de_int) da_nil)))))
      (dss_cons (ds_if (dt_w (dw_or (dt_not (dt_val (de_call (G_law_is_same.up_ (by decide)) hr hgd tk rfl m_law_is_same F_law_is_same.kp (b_law_is_same_p3 F_law_is_same) (da_cons (de_var 11) (da_cons (de_var 6) (da_cons (de_var 7) da_nil)))))) (dw_or (dt_not (dt_eqO (G_Notebook___eq__.up_ (by decide)) hr hgd tk (b_Notebook___eq___p2 F_Notebook___eq__) (E_Notebook___eq__) (de_var 11) (de_var 10))) (dw_or (dt_neO (G_Notebook___eq__.up_ (by decide)) hr hgd tk (b_Notebook___eq___p2 F_Notebook___eq__) (E_Notebook___eq__) T.ne_Notebook T.i_Notebook.2.2.2.2 (de_var 11) (de_var 10)) (dw_or1 (dt_eqO (G_Notebook___eq__.up_ (by decide)) hr hgd tk (b_Notebook___eq___p2 F_Notebook___eq__) (E_Notebook___eq__) (de_var 10) (de_tup (da_cons (de_fld (de_var 10)) (da_cons (de_fld (de_var 10)) da_nil)))))))))
      (dss_one (ds_ret de_bl))
      dss_nil)
      (dss_cons (ds_par 12 13 nd (da_cons (de_call (G_law_draw.up_ (by decide)) hr hgd tk rfl m_law_draw F_law_draw.kp (b_law_draw_p2 F_law_draw) (da_cons (de_var 1) (da_cons (de_var 3) da_nil))) (da_cons (de_call (G_law_draw.up_ (by decide)) hr hgd tk rfl m_law_draw F_law_draw.kp (b_law_draw_p2 F_law_draw) (da_cons (de_var 1) (da_cons (de_var 4) da_nil))) da_nil)))
      (dss_cons (ds_set 8 nd (de_listM rfl T.z_list (by decide +kernel) (da_cons (de_var 6) da_nil)))
      (dss_cons (ds_setIx (de_if (dt_cmp op_isN o2_isN (de_ix ix_seq o2_ix (de_var 6) (de_var 12)) de_non) (de_var 13) de_non) (de_var 8) (de_var 12))
      (dss_cons (ds_set 14 nd (de_call (G_law_made.up_ (by decide)) hr hgd tk rfl m_law_made F_law_made.kp (b_law_made_p3 F_law_made) (da_cons (de_var 8) (da_cons (de_var 7) (da_cons de_bl da_nil)))))
      (dss_cons (ds_if (dt_w (dw_or (dt_not (dt_val (de_call (G_law_is_same.up_ (by decide)) hr hgd tk rfl m_law_is_same F_law_is_same.kp (b_law_is_same_p3 F_law_is_same) (da_cons (de_var 14) (da_cons (de_var 8) (da_cons (de_var 7) da_nil)))))) (dw_or (dt_eqO (G_Notebook___eq__.up_ (by decide)) hr hgd tk (b_Notebook___eq___p2 F_Notebook___eq__) (E_Notebook___eq__) (de_var 14) (de_var 10)) (dw_or1 (dt_not (dt_neO (G_Notebook___eq__.up_ (by decide)) hr hgd tk (b_Notebook___eq___p2 F_Notebook___eq__) (E_Notebook___eq__) T.ne_Notebook T.i_Notebook.2.2.2.2 (de_var 14) (de_var 10)))))))
      (dss_one (ds_ret de_bl))
      dss_nil)
      (dss_cons (ds_if (dt_cmp op_gt o2_gt (de_var 3) de_int)
      (dss_cons (ds_setLcM (i := 9) (own := [("row", 18)]) rfl nd (di_seq (de_var 7)) (blkOk_by (own := [("row", 18)]) (N := N_law) (sc := sc_law) (by decide +kernel)) (fun _ _ _ _ _ => (gp_name (vs := [18]) nd (by decide) rfl (Or.inl rfl))) (fun _ _ _ _ _ => dts_nil) (fun _ _ _ _ _ => (de_listM rfl T.z_list (by decide +kernel) (da_cons (de_var 18) da_nil))))
      (dss_cons (ds_setIx (de_op op_modN o2_mod (de_ct call_int1 cd_int rfl T.z_int (by decide +kernel) (da_cons (de_op op_add4 o2_add (de_ix ix_seq o2_ix (de_ix ix_seq o2_ix (de_var 7) (de_var 12)) (de_var 13)) de_int) da_nil)) (de_var 3)) (de_ix ix_seq o2_ix (de_var 9) (de_var 12)) (de_var 13))
      (dss_cons (ds_set 14 nd (de_call (G_law_made.up_ (by decide)) hr hgd tk rfl m_law_made F_law_made.kp (b_law_made_p3 F_law_made) (da_cons (de_var 6) (da_cons (de_var 9) (da_cons de_bl da_nil)))))
      (dss_one (ds_if (dt_w (dw_or (dt_not (dt_val (de_call (G_law_is_same.up_ (by decide)) hr hgd tk rfl m_law_is_same F_law_is_same.kp (b_law_is_same_p3 F_law_is_same) (da_cons (de_var 14) (da_cons (de_var 6) (da_cons (de_var 9) da_nil)))))) (dw_or (dt_eqO (G_Notebook___eq__.up_ (by decide)) hr hgd tk (b_Notebook___eq___p2 F_Notebook___eq__) (E_Notebook___eq__) (de_var 14) (de_var 10)) (dw_or1 (dt_not (dt_neO (G_Notebook___eq__.up_ (by decide)) hr hgd tk (b_Notebook___eq___p2 F_Notebook___eq__) (E_Notebook___eq__) T.ne_Notebook T.i_Notebook.2.2.2.2 (de_var 14) (de_var 10)))))))
      (dss_one (ds_ret de_bl))
      dss_nil)))))
      dss_nil)
      (dss_cons (ds_if (dt_cmp (op_ne2 hr.units) o2_ne (de_call (G_law_made.up_ (by decide)) hr hgd tk rfl m_law_made F_law_made.kp (b_law_made_p3 F_law_made) (da_cons (de_call (G_law_bad_moves.up_ (by decide)) hr hgd tk rfl m_law_bad_moves F_law_bad_moves.kp (b_law_bad_moves_p2 F_law_bad_moves) (da_cons (de_var 1) (da_cons (de_var 6) da_nil))) (da_cons (de_call (G_law_pick.up_ (by decide)) hr hgd tk rfl m_law_pick F_law_pick.kp (b_law_pick_p2 F_law_pick) (da_cons (de_var 1) (da_cons (de_lst (da_cons (de_var 7) (da_cons de_non (da_cons (de_lst da_nil) da_nil)))) da_nil))) (da_cons (de_cmp (op_eq2 hr.units) o2_eq (de_call (G_law_draw.up_ (by decide)) hr hgd tk rfl m_law_draw F_law_draw.kp (b_law_draw_p2 F_law_draw) (da_cons (de_var 1) (da_cons de_int da_nil))) de_int) da_nil)))) (de_tup (da_cons de_str da_nil)))
      (dss_one (ds_ret de_bl))
      dss_nil)
      (dss_cons (ds_if (dt_cmp (op_ne2 hr.units) o2_ne (de_call (G_law_made.up_ (by decide)) hr hgd tk rfl m_law_made F_law_made.kp (b_law_made_p3 F_law_made) (da_cons (de_var 6) (da_cons (de_call (G_law_bad_turns.up_ (by decide)) hr hgd tk rfl m_law_bad_turns F_law_bad_turns.kp (b_law_bad_turns_p2 F_law_bad_turns) (da_cons (de_var 1) (da_cons (de_var 7) da_nil))) (da_cons (de_cmp (op_eq2 hr.units) o2_eq (de_call (G_law_draw.up_ (by decide)) hr hgd tk rfl m_law_draw F_law_draw.kp (b_law_draw_p2 F_law_draw) (da_cons (de_var 1) (da_cons de_int da_nil))) de_int) da_nil)))) (de_tup (da_cons de_str da_nil)))
      (dss_one (ds_ret de_bl))
      dss_nil)
      (dss_one (ds_if (dt_cmp op_lt o2_lt (de_var 4) de_int)
      (dss_cons (ds_set 8 nd (de_listM rfl T.z_list (by decide +kernel) (da_cons (de_var 6) da_nil)))
      (dss_cons (ds_setIx (de_op op_add4 o2_add (de_var 4) (de_call (G_law_draw.up_ (by decide)) hr hgd tk rfl m_law_draw F_law_draw.kp (b_law_draw_p2 F_law_draw) (da_cons (de_var 1) (da_cons (de_op op_sub o2_sub de_int (de_var 4)) da_nil)))) (de_var 8) (de_var 12))
      (dss_one (ds_if (dt_cmp (op_ne2 hr.units) o2_ne (de_call (G_law_made.up_ (by decide)) hr hgd tk rfl m_law_made F_law_made.kp (b_law_made_p3 F_law_made) (da_cons (de_var 8) (da_cons (de_call (G_law_copied.up_ (by decide)) hr hgd tk rfl m_law_copied F_law_copied.kp (b_law_copied_p2 F_law_copied) (da_cons (de_var 1) (da_cons (de_var 7) da_nil))) (da_cons de_bl da_nil)))) (de_tup (da_cons de_str da_nil)))
      (dss_one (ds_ret de_bl))
      dss_nil))))
      dss_nil))))))))))))))))))))))))
      (dss_one (ds_ret de_bl))))
end Lw
namespace Lw
open PySem L2 Dx
local macro_rules | `(tactic| walk_at "dx") => `(tactic| simp only [dVar, dC, dBin, dUn, dTst, dTru, dAnd, dOr, dNot, dAndV, dOrV, dNotV, dIf, dChain, dNil, dCons, dTup, dLst, dLstM, dDic0, dDic1, dNoP, dPart, dSl, dCB, dIsi, dIsiT, dNext, dSeq, dRet, dRetF, dRetN, dDrop, dIfS, dBreak, dCont, dAsg, gN, gTu, gCn, gNl, dPar, dSetIx, dApp, dISeq, dIRng1, dIRng2, dFor, dCall, dLc, dLcM, dYes, dwipe, ends,
  List.getElem?_cons_zero, List.getElem?_cons_succ, List.getElem?_nil, List.set_cons_zero, List.set_cons_succ, List.length_cons, List.length_nil, Nat.zero_add, Nat.reduceAdd, true_and])
local macro_rules | `(tactic| walk_at "df") => `(tactic| simp only [fAdd, fSub, fMul, fMod, fFd, fPow, fNeg, fLt, fLe, fGt, fGe, fI, fI0, fU, fIsN, fNotN, fIx, fSl, fLen, fInt, fAbs, fMax2, fMin2, fStr, fTuple, fList, fAll, fAny, fSum, fEq_ii, fNe_ii, fEq_ss, fNe_ss, fEq_bb, fNe_bb, atI_0, atI_1, atI_2, ixN_0, ixN_1, ixN_2, Option.bind_some, Option.map_some, shown?, D.py, D.pys, updO_upd, kindD_non, kindD_bl, kindD_int, kindD_str, kindD_lst, kindD_tup, kindD_dic, items_lst, items_tup, items_wl, itemsL_lst, itemsL_wl, trkD_lst, items_ref, itemsL_ref, trkD_ref, kindD_ref, lenD_lst, lenD_tup, lenD_wl, lenD_dic, lenD_ref, lenD_str, truth_non, truth_bl, truth_int, truth_str, truth_dic, truth_lst, truth_tup, truth_wl, truth_ref, keyD_int, keyD_str, noneD_non, noneD_bl, noneD_int, noneD_str, noneD_lst, noneD_tup, noneD_dic, noneD_ref, sz0, sz1, sz2, sz3, sz4, sz5, sz6, sz7, sz8, sz9, sz10, sz11, sz12, sz13, sz14, sz15, sz16, sz17, sz18, sz19, sz20, sz21, sz22, sz23, sz24, sz25, sz26, sz27, sz28, sz29, sz30, true_and, and_true])
def sd_is_integer : SpD := fun ds O Q E => match ds with
  | [d] => (kindD O d).isSome = true ∧ Q (.bl (isInt d)) O
  | _ => False
theorem rd_is_integer : ∀ ds O Q E, sd_is_integer ds O Q E → t_is_integer (ends Q E) (dstart N_is_integer.length ds) O := by
  intro ds O Q E h
  unfold sd_is_integer at h
  split at h
  · rename_i d
    obtain ⟨hk, q⟩ := h
    show t_is_integer (ends Q E) [some d] O
    unfold t_is_integer
    walk_at "dx"
    cases hd : kindD O d with
    | none => rw [hd] at hk; cases hk
    | some k =>
      have e := isInt_of hd
      rw [← e] at q
      cases h1 : subT k "int" with
      | true =>
        rw [h1] at q
        simp only [h1]
        exact ⟨O, Sub.refl O, q⟩
      | false =>
        rw [h1] at q
        simp only [h1]
        exact ⟨O, Sub.refl O, q⟩
  · exact h.elim
def sd_is_within : SpD := fun ds O Q E => match ds with
  | [d, lo, hi] => ∃ l h, bnd lo = some l ∧ bnd hi = some h ∧ (kindD O d).isSome = true ∧ Q (.bl (within d l h)) O
  | _ => False
theorem rd_is_within : ∀ ds O Q E, sd_is_within ds O Q E → t_is_within sd_is_integer (ends Q E) (dstart N_is_within.length ds) O := by
  intro ds O Q E h
  unfold sd_is_within at h
  split at h
  · rename_i d lo hi
    obtain ⟨l, h, hl, hh, hk, q⟩ := h
    show t_is_within sd_is_integer (ends Q E) [some d, some lo, some hi] O
    unfold t_is_within
    walk_at "dx"
    simp only [g_is_integer_p1, mx_is_integer_p1, sd_is_integer, hk, true_and]
    have fin : ∀ b, b = within d l h → ∃ O2, Dx.Sub O2 O ∧ Q (.bl b) O2 := fun b e => ⟨O, Sub.refl O, by rw [e]; exact q⟩
    cases d with
    | int v =>
      simp only [isInt, Bool.not_true]
      cases lo <;> simp [bnd] at hl <;> cases hi <;> simp [bnd] at hh <;> subst hl <;> subst hh <;> walk_at "df"
      · exact fin _ rfl
      · exact fin _ (by simp [within])
      · rename_i i
        cases hd : decide (i ≤ v) with
        | true => exact fin _ (by simp [within, hd])
        | false => exact fin _ (by simp [within, hd])
      · rename_i i j
        cases hd : decide (i ≤ v) with
        | true => exact fin _ (by simp [within, hd])
        | false => exact fin _ (by simp [within, hd])
    | _ => exact fin _ rfl
  · exact h.elim
def sd_is_list : SpD := fun ds O Q E => match ds with
  | [d] => Kd O d ∧ Q (.bl (items O d).isSome) O
  | _ => False
theorem rd_is_list : ∀ ds O Q E, sd_is_list ds O Q E → t_is_list (ends Q E) (dstart N_is_list.length ds) O := by
  intro ds O Q E h
  unfold sd_is_list at h
  split at h
  · rename_i d
    obtain ⟨hk, q⟩ := h
    obtain ⟨k, hk⟩ := Option.isSome_iff_exists.mp hk
    show t_is_list (ends Q E) [some d] O
    unfold t_is_list
    walk_at "dx"
    simp only [hk, seq_items hk]
    exact ⟨O, Sub.refl O, q⟩
  · exact h.elim
end Lw
namespace Lw
open PySem L2 Dx
local macro_rules | `(tactic| walk_at "dx") => `(tactic| simp only [dVar, dC, dBin, dUn, dTst, dTru, dAnd, dOr, dNot, dAndV, dOrV, dNotV, dIf, dChain, dNil, dCons, dTup, dLst, dLstM, dDic0, dDic1, dNoP, dPart, dSl, dCB, dIsi, dIsiT, dNext, dSeq, dRet, dRetF, dRetN, dDrop, dIfS, dBreak, dCont, dAsg, gN, gTu, gCn, gNl, dPar, dSetIx, dApp, dISeq, dIRng1, dIRng2, dFor, dCall, dLc, dLcM, dYes, dwipe, ends,
  List.getElem?_cons_zero, List.getElem?_cons_succ, List.getElem?_nil, List.set_cons_zero, List.set_cons_succ, List.length_cons, List.length_nil, Nat.zero_add, Nat.reduceAdd, true_and])
local macro_rules | `(tactic| walk_at "df") => `(tactic| simp only [fAdd, fSub, fMul, fMod, fFd, fPow, fNeg, fLt, fLe, fGt, fGe, fI, fI0, fU, fIsN, fNotN, fIx, fSl, fLen, fInt, fAbs, fMax2, fMin2, fStr, fTuple, fList, fAll, fAny, fSum, fEq_ii, fNe_ii, fEq_ss, fNe_ss, fEq_bb, fNe_bb, atI_0, atI_1, atI_2, ixN_0, ixN_1, ixN_2, Option.bind_some, Option.map_some, shown?, D.py, D.pys, updO_upd, kindD_non, kindD_bl, kindD_int, kindD_str, kindD_lst, kindD_tup, kindD_dic, items_lst, items_tup, items_wl, itemsL_lst, itemsL_wl, trkD_lst, items_ref, itemsL_ref, trkD_ref, kindD_ref, lenD_lst, lenD_tup, lenD_wl, lenD_dic, lenD_ref, lenD_str, truth_non, truth_bl, truth_int, truth_str, truth_dic, truth_lst, truth_tup, truth_wl, truth_ref, keyD_int, keyD_str, noneD_non, noneD_bl, noneD_int, noneD_str, noneD_lst, noneD_tup, noneD_dic, noneD_ref, sz0, sz1, sz2, sz3, sz4, sz5, sz6, sz7, sz8, sz9, sz10, sz11, sz12, sz13, sz14, sz15, sz16, sz17, sz18, sz19, sz20, sz21, sz22, sz23, sz24, sz25, sz26, sz27, sz28, sz29, sz30, true_and, and_true])
def rowLen (O : DH) (r : D) : Nat := match items O r with
  | some es => es.length
  | none => 0
def width (O : DH) (ds : List D) : Nat := match ds with
  | r :: _ => rowLen O r
  | [] => 0
def its (O : DH) (r : D) : List D := (items O r).getD []
def turnsOk (O : DH) (ds : List D) (n : Int) : Bool := decide ((ds.length : Int) = n) && ((ds.all fun r => (items O r).isSome) && ((decide ((2 : Int) ≤ width O ds) && decide ((width O ds : Int) ≤ 4)) && ((ds.all fun r => decide ((rowLen O r : Int) = width O ds)) && ((ds.flatMap (its O)).all fun p => within p (some 0) (some (n - 1))))))
def areTurns (O : DH) (d : D) (n : Int) : Bool := match items O d with
  | some ds => turnsOk O ds n
  | none => false
def sd_are_turns : SpD := fun ds O Q E => match ds with
  | [d, .int n] => Rows O d ∧ 0 < n ∧ n ≤ 1000 ∧ Q (.bl (areTurns O d n)) O
  | _ => False
theorem rd_are_turns : ∀ ds O Q E, sd_are_turns ds O Q E → t_are_turns sd_is_within sd_is_list (ends Q E) (dstart N_are_turns.length ds) O := by
  intro ds O Q E h
  unfold sd_are_turns at h
  split at h
  · rename_i d n
    obtain ⟨⟨⟨hk, hi⟩, hrow⟩, hn, hn2, q⟩ := h
    show t_are_turns sd_is_within sd_is_list (ends Q E) [some d, some (.int n), none, none] O
    unfold t_are_turns areTurns at *
    refine seq_step fun U hU => ?_
    walk_at "dx"
    simp only [g_is_list_p1, mx_is_list_p1, sd_is_list, hk, true_and]
    cases he : items O d with
    | none =>
      rw [he] at q
      exact ⟨O, Sub.refl O, q⟩
    | some ds =>
      rw [he] at q
      obtain ⟨hz, hke⟩ := hi ds he
      have hr := hrow ds he
      simp only [fLen_eq he, fNe_ii, Option.isSome_some, Bool.not_true]
      have q : Q (.bl (turnsOk O ds n)) O := q
      unfold turnsOk at q
      cases hl : decide ((ds.length : Int) = n) with
      | false =>
        rw [hl] at q
        exact ⟨O, Sub.refl O, q⟩
      | true =>
        rw [hl, Bool.true_and] at q
        simp only [Bool.not_true]
        intro a ha
        refine lc_map (fun e => .bl (items O e).isSome) hz ha (guard_sub he) (fun e hem O2 R s r => ⟨rfl, rfl, (hke e hem).sub s, by rw [items_sub s (hke e hem)]; exact r⟩) ?_
        rw [fAll_mapE]
        cases hall : ds.all fun e => (items O e).isSome with
        | false =>
          rw [hall] at q
          exact ⟨O, Sub.refl O, q⟩
        | true =>
          rw [hall, Bool.true_and] at q
          simp only [Bool.not_true]
          subst hU
          refine seq_step fun U hU => ?_
          have hsome : ∀ r ∈ ds, items O r = some (its O r) := fun r hr => by
            obtain ⟨es, e⟩ := Option.isSome_iff_exists.mp (List.all_eq_true.mp hall r hr)
            unfold its
            rw [e]
            rfl
          obtain ⟨r0, rs, rfl⟩ : ∃ r0 rs, ds = r0 :: rs := by
            cases ds with
            | nil => exact absurd (of_decide_eq_true hl) (by simp; omega)
            | cons x y => exact ⟨x, y, rfl⟩
          have h0 := hsome r0 (List.mem_cons_self)
          have h0k := hke r0 (List.mem_cons_self)
          have hw : width O (r0 :: rs) = (its O r0).length := by show rowLen O r0 = _; unfold rowLen; rw [h0]
          walk_at "dx"
          simp only [fIx_eq he (atI_0 r0 rs), fLen_eq h0, fLe, fI0]
          rw [← hw]
          rw [he]
          have hlen : (r0 :: rs).length ≤ 1000 := by have := of_decide_eq_true hl; omega
          generalize hds : r0 :: rs = ds at *
          have hitem : ∀ r ∈ ds, ∀ e ∈ its O r, Kd O e := fun r hr' e hee => ((hr r hr').2 _ (hsome r hr')).2 e hee
          cases hd1 : decide ((2 : Int) ≤ (width O ds : Int)) with
          | false =>
            rw [hd1] at q
            exact ⟨O, Sub.refl O, q⟩
          | true =>
            cases hd2 : decide ((width O ds : Int) ≤ 4) with
            | false =>
              rw [hd1, hd2] at q
              exact ⟨O, Sub.refl O, q⟩
            | true =>
              rw [hd1, hd2, Bool.true_and, Bool.true_and] at q
              have hw4 : width O ds ≤ 4 := by have := of_decide_eq_true hd2; omega
              intro a ha
              refine lc_map (fun r => .bl (decide ((rowLen O r : Int) = width O ds))) hz ha (guard_sub he) (fun r hem O2 R s w => ?_) ?_
              · have e1 : items O2 r = some (its O r) := by rw [items_sub s (hke r hem)]; exact hsome r hem
                have e2 : items O2 d = some ds := by rw [items_sub s hk]; exact he
                have e3 : items O2 r0 = some (its O r0) := by rw [items_sub s h0k]; exact h0
                have e4 : (its O r).length = rowLen O r := by unfold rowLen; rw [hsome r hem]
                walk_at "dx"
                simp only [fLen_eq e1, fIx_eq e2 (show atI ds 0 = some r0 by rw [← hds]; exact atI_0 r0 rs), fLen_eq e3, fEq_ii]
                rw [e4, ← hw]
                exact w
              · rw [fAll_mapE]
                cases hall2 : ds.all fun r => decide ((rowLen O r : Int) = width O ds) with
                | false =>
                  rw [hall2] at q
                  exact ⟨O, Sub.refl O, q⟩
                | true =>
                  rw [hall2, Bool.true_and] at q
                  simp only [Bool.not_true]
                  subst hU
                  walk_at "dx"
                  unfold dLc2
                  walk_at "dx"
                  rw [he]
                  intro b hb
                  refine lc2_map (its O) (fun e => .bl (within e (some 0) (some (n - 1)))) ?_ hb (guard_sub he) (fun r hem O2 R s w => ?_) (fun r hem e hee O2 R s w => ?_) ?_
                  · have e4 : ∀ r ∈ ds, (its O r).length ≤ 4 := fun r hem => by
                      have h := of_decide_eq_true (List.all_eq_true.mp hall2 r hem)
                      unfold rowLen at h
                      rw [hsome r hem] at h
                      simp only at h
                      omega
                    have : ∀ l : List D, (∀ r ∈ l, (its O r).length ≤ 4) → (l.flatMap (its O)).length ≤ 4 * l.length := by
                      intro l
                      induction l with
                      | nil => intro _; simp
                      | cons x r ih =>
                        intro h
                        rw [List.flatMap_cons, List.length_append, List.length_cons]
                        have h1 := h x (List.mem_cons_self)
                        have h2 := ih fun y hy => h y (List.mem_cons_of_mem _ hy)
                        omega
                    have := this ds e4
                    exact small_line (by omega)
                  · have e1 : items O2 r = some (its O r) := by rw [items_sub s (hke r hem)]; exact hsome r hem
                    walk_at "dx"
                    simp only [e1]
                    exact w _ (guard_sub (hsome r hem))
                  · exact ⟨rfl, rfl, some 0, some (n - 1), rfl, rfl, (hitem r hem e hee).sub s, w⟩
                  · rw [fAll_mapE]
                    exact ⟨O, Sub.refl O, q⟩
  · exact h.elim
end Lw
namespace Lw
open PySem L2 Dx
local macro_rules | `(tactic| walk_at "dx") => `(tactic| simp only [dVar, dC, dBin, dUn, dTst, dTru, dAnd, dOr, dNot, dAndV, dOrV, dNotV, dIf, dChain, dNil, dCons, dTup, dLst, dLstM, dDic0, dDic1, dNoP, dPart, dSl, dCB, dIsi, dIsiT, dNext, dSeq, dRet, dRetF, dRetN, dDrop, dIfS, dBreak, dCont, dAsg, gN, gTu, gCn, gNl, dPar, dSetIx, dApp, dISeq, dIRng1, dIRng2, dFor, dCall, dLc, dLcM, dYes, dwipe, ends, dRaise1, dRaise2, dSetFld, dFld, dTryAs, suiteE, dXf, dMake, dIsiC, dListM, dEqO, dMeth, dLc2,
  List.getElem?_cons_zero, List.getElem?_cons_succ, List.getElem?_nil, List.set_cons_zero, List.set_cons_succ, List.length_cons, List.length_nil, Nat.zero_add, Nat.reduceAdd, true_and])
local macro_rules | `(tactic| walk_at "df") => `(tactic| simp only [fAdd, fSub, fMul, fMod, fFd, fPow, fNeg, fLt, fLe, fGt, fGe, fI, fI0, fU, fIsN, fNotN, fIx, fSl, fLen, fInt, fAbs, fMax2, fMin2, fStr, fTuple, fList, fAll, fAny, fSum, fEq_ii, fNe_ii, fEq_ss, fNe_ss, fEq_bb, fNe_bb, atI_0, atI_1, atI_2, ixN_0, ixN_1, ixN_2, Option.bind_some, Option.map_some, shown?, D.py, D.pys, updO_upd, kindD_non, kindD_bl, kindD_int, kindD_str, kindD_lst, kindD_tup, kindD_dic, items_lst, items_tup, items_wl, itemsL_lst, itemsL_wl, trkD_lst, items_ref, itemsL_ref, trkD_ref, kindD_ref, lenD_lst, lenD_tup, lenD_wl, lenD_dic, lenD_ref, lenD_str, truth_non, truth_bl, truth_int, truth_str, truth_dic, truth_lst, truth_tup, truth_wl, truth_ref, keyD_int, keyD_str, noneD_non, noneD_bl, noneD_int, noneD_str, noneD_lst, noneD_tup, noneD_dic, noneD_ref, sz0, sz1, sz2, sz3, sz4, sz5, sz6, sz7, sz8, sz9, sz10, sz11, sz12, sz13, sz14, sz15, sz16, sz17, sz18, sz19, sz20, sz21, sz22, sz23, sz24, sz25, sz26, sz27, sz28, sz29, sz30, true_and, and_true])
theorem turns_spec {O : DH} {tn : D} {n : Int} (h : areTurns O tn n = true) (hn : 0 < n) : ∃ r0 rs, items O tn = some (r0 :: rs) ∧ (∀ r ∈ r0 :: rs, items O r = some (its O r)) ∧ width O (r0 :: rs) = (its O r0).length ∧ its O tn = r0 :: rs := by
  unfold areTurns at h
  cases he : items O tn with
  | none => rw [he] at h; cases h
  | some ts =>
    rw [he] at h
    have h : turnsOk O ts n = true := h
    unfold turnsOk at h
    obtain ⟨h1, h⟩ := Bool.and_eq_true_iff.mp h
    obtain ⟨h2, _⟩ := Bool.and_eq_true_iff.mp h
    have l := of_decide_eq_true h1
    have hs : ∀ r ∈ ts, items O r = some (its O r) := fun r hr => by
      obtain ⟨es, e⟩ := Option.isSome_iff_exists.mp (List.all_eq_true.mp h2 r hr)
      unfold its
      rw [e]
      rfl
    cases ts with
    | nil => exact absurd l (by simp; omega)
    | cons r0 rs =>
      refine ⟨r0, rs, rfl, hs, ?_, ?_⟩
      · show rowLen O r0 = _
        unfold rowLen
        rw [hs r0 List.mem_cons_self]
      · unfold its
        rw [he]
        rfl
def moveOk (d : D) : Bool := noneD d || within d (some 0) (some 3)
def moveIn (w : Nat) (d : D) : Bool := noneD d || (match d with
  | .int i => decide (i < (w : Int))
  | _ => false)
def nbF (O : DH) (ms : List D) (tn : D) : List (Str × D) := [("moves", .tup ms), ("turns", .tup ((its O tn).map fun r => .tup (its O r))), ("letters", .int (width O (its O tn)))]
def nbChk (O : DH) (mv tn : D) : Except Str (List (Str × D)) := match items O mv with
  | none => .error "moves"
  | some ms => if (decide ((1 : Int) ≤ ms.length) && decide ((ms.length : Int) ≤ 4)) = false then .error "moves" else if (ms.all moveOk) = false then .error "moves" else
    if (areTurns O tn ms.length && ms.all (moveIn (width O (its O tn)))) = false then .error "turns" else .ok (nbF O ms tn)
def sd_Notebook___init__ (K : PySem.W.Frag) : SpD := fun ds O Q E => match ds with
  | [.ref a, mv, tn] => O a = some (.ins (He.ga K "Notebook") []) ∧ Row O mv ∧ Rows O tn ∧ (match nbChk O mv tn with
    | .error p => E (.ref (He.ga K "BadNotebook")) [("part", .str p)] O
    | .ok gs => Q .non (updO O a (.ins (He.ga K "Notebook") gs)))
  | _ => False
theorem rd_Notebook___init__ {K : PySem.W.Frag} {mg : Str → Option Value} (T : Facts K mg) : ∀ ds O Q E, sd_Notebook___init__ K ds O Q E → t_Notebook___init__ K sd_are_turns sd_is_within sd_is_list (ends Q E) (dstart N_Notebook___init__.length ds) O := by
  intro ds O Q E h
  unfold sd_Notebook___init__ at h
  split at h
  · rename_i a mv tn
    obtain ⟨ha, ⟨hk, hi⟩, hT, q⟩ := h
    show t_Notebook___init__ K sd_are_turns sd_is_within sd_is_list (ends Q E) [some (.ref a), some mv, some tn, none, none] O
    unfold t_Notebook___init__
    refine seq_step fun U hU => ?_
    walk_at "dx"
    simp only [g_is_list_p1, mx_is_list_p1, sd_is_list, hk, true_and]
    unfold nbChk at q
    cases he : items O mv with
    | none =>
      rw [he] at q
      exact ⟨O, Sub.refl O, q⟩
    | some ms =>
      rw [he] at q
      obtain ⟨hz, hke⟩ := hi ms he
      simp only [Option.isSome_some, fLen_eq he, fLe, fI0, Bool.not_true] at q ⊢
      cases hd1 : decide ((1 : Int) ≤ (ms.length : Int)) with
      | false =>
        rw [hd1] at q
        exact ⟨O, Sub.refl O, q⟩
      | true =>
        cases hd2 : decide ((ms.length : Int) ≤ 4) with
        | false =>
          rw [hd1, hd2] at q
          exact ⟨O, Sub.refl O, q⟩
        | true =>
          rw [hd1, hd2] at q
          have l1 := of_decide_eq_true hd1
          have l2 := of_decide_eq_true hd2
          simp only [Bool.not_true]
          subst hU
          refine seq_step fun U hU => ?_
          walk_at "dx"
          rw [he]
          intro b hb
          refine lc_map (fun e => .bl (moveOk e)) hz hb (guard_sub he) (fun e hem O2 R s w => ?_) ?_
          · walk_at "dx"
            walk_at "df"
            unfold moveOk at w
            cases hn : noneD e with
            | true => rw [hn] at w; exact w
            | false => rw [hn] at w; exact ⟨some 0, some 3, rfl, rfl, (hke e hem).sub s, w⟩
          · rw [fAll_mapE]
            cases hm : ms.all moveOk with
            | false =>
              rw [hm] at q
              exact ⟨O, Sub.refl O, q⟩
            | true =>
              rw [hm] at q
              simp only [Bool.not_true]
              subst hU
              refine seq_step fun U hU => ?_
              walk_at "dx"
              simp only [fLen_eq he, g_are_turns_p2, mx_are_turns_p2]
              refine ⟨hT, by omega, by omega, ?_⟩
              cases ht : areTurns O tn ms.length with
              | false =>
                rw [ht] at q
                exact ⟨O, Sub.refl O, q⟩
              | true =>
                rw [ht, Bool.true_and] at q
                obtain ⟨r0, rs, t1, t2, t3, t4⟩ := turns_spec ht (by omega)
                have hk0 := (hT.1.2 _ t1).2
                simp only [Bool.not_true]
                rw [he]
                intro b hb
                refine lc_map (fun e => .bl (moveIn (width O (its O tn)) e)) hz hb (guard_sub he) (fun e hem O2 R s w => ?_) ?_
                · have e2 : items O2 tn = some (r0 :: rs) := by rw [items_sub s hT.1.1]; exact t1
                  have e3 : items O2 r0 = some (its O r0) := by rw [items_sub s (hk0 r0 List.mem_cons_self)]; exact t2 r0 List.mem_cons_self
                  walk_at "dx"
                  simp only [fIx_eq e2 (atI_0 r0 rs), fLen_eq e3]
                  walk_at "df"
                  have hmo := List.all_eq_true.mp hm e hem
                  unfold moveIn at w
                  unfold moveOk at hmo
                  cases hn : noneD e with
                  | true => rw [hn] at w; exact w
                  | false =>
                    rw [hn] at w hmo
                    rw [t4, t3] at w
                    cases e <;> first | exact w | cases hmo
                · rw [fAll_mapE]
                  cases hm2 : ms.all (moveIn (width O (its O tn))) with
                  | false =>
                    rw [hm2] at q
                    exact ⟨O, Sub.refl O, q⟩
                  | true =>
                    rw [hm2] at q
                    have q : Q .non (updO O a (.ins (He.ga K "Notebook") (nbF O ms tn))) := q
                    simp only [Bool.not_true]
                    subst hU
                    walk_at "dx"
                    simp only [fTuple_eq he, ha, t1]
                    refine ⟨T.a_Notebook_moves, by decide, ?_⟩
                    obtain ⟨i1, i2⟩ := items_ins (m := .ins (He.ga K "Notebook") (putD "moves" (.tup ms) [])) ha hT.1.1
                    have i3 : ∀ r ∈ r0 :: rs, _ := fun r hr => items_ins (m := .ins (He.ga K "Notebook") (putD "moves" (.tup ms) [])) ha (hk0 r hr)
                    have i4 := i1.trans t1
                    rw [i4]
                    intro c hc
                    refine lc_map (fun r => .tup (its O r)) ((hT.1.2 _ t1).1) hc (guard_sub i4) (fun r hem O2 R s w => ?_) ?_
                    · have e1 : items O2 r = some (its O r) := by rw [items_sub s (i3 r hem).2, (i3 r hem).1]; exact t2 r hem
                      walk_at "dx"
                      simp only [fTuple_eq e1]
                      exact w
                    · simp only [fTuple, items_lst, updO_same, updO_upd]
                      obtain ⟨j1, j2⟩ := items_ins (m := .ins (He.ga K "Notebook") (putD "turns" (.tup ((r0 :: rs).map fun r => .tup (its O r))) (putD "moves" (.tup ms) []))) ha hT.1.1
                      obtain ⟨k1, k2⟩ := items_ins (m := .ins (He.ga K "Notebook") (putD "turns" (.tup ((r0 :: rs).map fun r => .tup (its O r))) (putD "moves" (.tup ms) []))) ha (hk0 r0 List.mem_cons_self)
                      refine ⟨T.a_Notebook_turns, (by show 1 < 1000; decide), ?_⟩
                      rw [fIx_eq (j1.trans t1) (atI_0 r0 rs), fLen_eq (k1.trans (t2 r0 List.mem_cons_self))]
                      refine ⟨T.a_Notebook_letters, (by show 2 < 1000; decide), _, Sub.refl _, ?_⟩
                      unfold nbF at q
                      rw [t4, t3] at q
                      exact q
  · exact h.elim
end Lw
namespace Lw
open PySem L2 Dx
local macro_rules | `(tactic| walk_at "dx") => `(tactic| simp only [dVar, dC, dBin, dUn, dTst, dTru, dAnd, dOr, dNot, dAndV, dOrV, dNotV, dIf, dChain, dNil, dCons, dTup, dLst, dLstM, dDic0, dDic1, dNoP, dPart, dSl, dCB, dIsi, dIsiT, dNext, dSeq, dRet, dRetF, dRetN, dDrop, dIfS, dBreak, dCont, dAsg, gN, gTu, gCn, gNl, dPar, dSetIx, dApp, dISeq, dIRng1, dIRng2, dFor, dCall, dLc, dLcM, dYes, dwipe, ends, dRaise1, dRaise2, dSetFld, dFld, dTryAs, suiteE, dXf, dMake, dIsiC, dListM, dEqO, dMeth, dLc2,
  List.getElem?_cons_zero, List.getElem?_cons_succ, List.getElem?_nil, List.set_cons_zero, List.set_cons_succ, List.length_cons, List.length_nil, Nat.zero_add, Nat.reduceAdd, true_and])
local macro_rules | `(tactic| walk_at "df") => `(tactic| simp only [fAdd, fSub, fMul, fMod, fFd, fPow, fNeg, fLt, fLe, fGt, fGe, fI, fI0, fU, fIsN, fNotN, fIx, fSl, fLen, fInt, fAbs, fMax2, fMin2, fStr, fTuple, fList, fAll, fAny, fSum, fEq_ii, fNe_ii, fEq_ss, fNe_ss, fEq_bb, fNe_bb, atI_0, atI_1, atI_2, ixN_0, ixN_1, ixN_2, Option.bind_some, Option.map_some, shown?, D.py, D.pys, updO_upd, kindD_non, kindD_bl, kindD_int, kindD_str, kindD_lst, kindD_tup, kindD_dic, items_lst, items_tup, items_wl, itemsL_lst, itemsL_wl, trkD_lst, items_ref, itemsL_ref, trkD_ref, kindD_ref, lenD_lst, lenD_tup, lenD_wl, lenD_dic, lenD_ref, lenD_str, truth_non, truth_bl, truth_int, truth_str, truth_dic, truth_lst, truth_tup, truth_wl, truth_ref, keyD_int, keyD_str, noneD_non, noneD_bl, noneD_int, noneD_str, noneD_lst, noneD_tup, noneD_dic, noneD_ref, sz0, sz1, sz2, sz3, sz4, sz5, sz6, sz7, sz8, sz9, sz10, sz11, sz12, sz13, sz14, sz15, sz16, sz17, sz18, sz19, sz20, sz21, sz22, sz23, sz24, sz25, sz26, sz27, sz28, sz29, sz30, true_and, and_true])
/-! ### what is told does not hang on the table's other places -/
theorem its_sub {O O' : DH} (s : Dx.Sub O O') {d : D} (h : Kd O d) : its O' d = its O d := by unfold its; rw [items_sub s h]
theorem rowLen_sub {O O' : DH} (s : Dx.Sub O O') {d : D} (h : Kd O d) : rowLen O' d = rowLen O d := by unfold rowLen; rw [items_sub s h]
theorem width_sub {O O' : DH} (s : Dx.Sub O O') {ds : List D} (h : ∀ e ∈ ds, Kd O e) : width O' ds = width O ds := by
  cases ds with
  | nil => rfl
  | cons r rs => exact rowLen_sub s (h r List.mem_cons_self)
theorem all_congr {α : Type} {l : List α} {p q : α → Bool} (h : ∀ x ∈ l, p x = q x) : l.all p = l.all q := by
  induction l with
  | nil => rfl
  | cons x r ih => rw [List.all_cons, List.all_cons, h x List.mem_cons_self, ih fun y hy => h y (List.mem_cons_of_mem _ hy)]
theorem flatMap_congr' {α β : Type} {l : List α} {p q : α → List β} (h : ∀ x ∈ l, p x = q x) : l.flatMap p = l.flatMap q := by
  induction l with
  | nil => rfl
  | cons x r ih => rw [List.flatMap_cons, List.flatMap_cons, h x List.mem_cons_self, ih fun y hy => h y (List.mem_cons_of_mem _ hy)]
theorem map_congr' {α β : Type} {l : List α} {p q : α → β} (h : ∀ x ∈ l, p x = q x) : l.map p = l.map q := by
  induction l with
  | nil => rfl
  | cons x r ih => rw [List.map_cons, List.map_cons, h x List.mem_cons_self, ih fun y hy => h y (List.mem_cons_of_mem _ hy)]
theorem areTurns_sub {O O' : DH} (s : Dx.Sub O O') {d : D} (h : Rows O d) (n : Int) : areTurns O' d n = areTurns O d n := by
  unfold areTurns
  rw [items_sub s h.1.1]
  cases he : items O d with
  | none => rfl
  | some ds =>
    have hk := (h.1.2 ds he).2
    show turnsOk O' ds n = turnsOk O ds n
    unfold turnsOk
    rw [width_sub s hk, all_congr (q := fun r => (items O r).isSome) fun r hr => by rw [items_sub s (hk r hr)], all_congr (p := fun r => decide ((rowLen O' r : Int) = width O ds)) (q := fun r => decide ((rowLen O r : Int) = width O ds)) fun r hr => by rw [rowLen_sub s (hk r hr)],
      flatMap_congr' (p := its O') (q := its O) fun r hr => its_sub s (hk r hr)]
theorem nbChk_sub {O O' : DH} (s : Dx.Sub O O') {mv tn : D} (h : Row O mv) (h2 : Rows O tn) : nbChk O' mv tn = nbChk O mv tn := by
  unfold nbChk
  rw [items_sub s h.1]
  cases he : items O mv with
  | none => rfl
  | some ms =>
    simp only
    have hks : ∀ e ∈ its O tn, Kd O e := by
      unfold its
      cases ht : items O tn with
      | none => intro e he; cases he
      | some ts => exact (h2.1.2 ts ht).2
    rw [areTurns_sub s h2, its_sub s h2.1.1, width_sub s hks]
    have e : nbF O' ms tn = nbF O ms tn := by
      unfold nbF
      rw [its_sub s h2.1.1, width_sub s hks, map_congr' (p := fun r => D.tup (its O' r)) (q := fun r => D.tup (its O r)) fun r hr => by rw [its_sub s (hks r hr)]]
    rw [e]
def nbD (K : PySem.W.Frag) (ms : List (Option Int)) (rs : List (List Int)) (w : Int) : D := .ins (He.ga K "Notebook") [("moves", .tup (ms.map oD)), ("turns", .tup (rs.map cInt.tup.d)), ("letters", .int w)]
def sd_Notebook___eq__ (K : PySem.W.Frag) : SpD := fun ds O Q E => match ds with
  | [x, y] => ∃ ms rs w, x = nbD K ms rs w ∧ ((∃ ms' rs' w', y = nbD K ms' rs' w' ∧ Q (.bl (decide (ms = ms') && decide (rs = rs'))) O) ∨ (∃ ds, y = .tup ds ∧ Q (.bl false) O))
  | _ => False
theorem rd_Notebook___eq__ {K : PySem.W.Frag} {mg : Str → Option Value} (T : Facts K mg) : ∀ ds O Q E, sd_Notebook___eq__ K ds O Q E → t_Notebook___eq__ K (ends Q E) (dstart N_Notebook___eq__.length ds) O := by
  intro ds O Q E h
  unfold sd_Notebook___eq__ at h
  split at h
  · rename_i x y
    obtain ⟨ms, rs, w, rfl, h⟩ := h
    show t_Notebook___eq__ K (ends Q E) [some (nbD K ms rs w), some y] O
    unfold t_Notebook___eq__
    walk_at "dx"
    rcases h with ⟨ms', rs', w', rfl, q⟩ | ⟨ds, rfl, q⟩
    · refine ⟨T.i_Notebook, true, T.k_Notebook_Notebook, T.a_Notebook_moves, T.a_Notebook_moves, fEq_tup cOpt (by decide) ?_⟩
      cases h1 : decide (ms = ms') with
      | false =>
        rw [h1] at q
        exact ⟨O, Sub.refl O, q⟩
      | true =>
        rw [h1] at q
        exact ⟨T.a_Notebook_turns, T.a_Notebook_turns, fEq_tup cInt.tup (by decide) ⟨O, Sub.refl O, q⟩⟩
    · exact ⟨trivial, false, (T.p_Notebook (by decide)).1, O, Sub.refl O, q⟩
  · exact h.elim
def sd_law_made (K : PySem.W.Frag) : SpD := fun ds O Q E => match ds with
  | [mv, tn, .bl _] => Row O mv ∧ Rows O tn ∧ (match nbChk O mv tn with
    | .error p => Q (.tup [.str p]) O
    | .ok gs => Q (.ins (He.ga K "Notebook") gs) O)
  | _ => False
theorem rd_law_made {K : PySem.W.Frag} {mg : Str → Option Value} (T : Facts K mg) : ∀ ds O Q E, sd_law_made K ds O Q E → t_law_made K (sd_Notebook___init__ K) (ends Q E) (dstart N_law_made.length ds) O := by
  intro ds O Q E h
  unfold sd_law_made at h
  split at h
  · rename_i mv tn nm
    obtain ⟨h1, h2, q⟩ := h
    show t_law_made K (sd_Notebook___init__ K) (ends Q E) [some mv, some tn, some (.bl nm), none, none] O
    unfold t_law_made
    refine seq_step fun U hU => ?_
    walk_at "dx"
    subst hU
    refine seq_step fun U hU => ?_
    walk_at "dx"
    subst hU
    cases nm
    all_goals
      intro a ha
      have s := Sub.new (m := .ins (He.ga K "Notebook") []) ha
      refine ⟨updO_same, h1.sub s, h2.sub s, ?_⟩
      rw [nbChk_sub s h1 h2]
      cases hc : nbChk O mv tn with
      | error p =>
        rw [hc] at q
        exact ⟨true, T.ex_BadNotebook_BadNotebook, fun _ => ⟨by simp, fun a' dd => ⟨rfl, small_line (by decide), O, s, q⟩⟩, fun z => by cases z⟩
      | ok gs =>
        rw [hc] at q
        exact ⟨rfl, gs, O, updO_same, by rw [updO_upd]; exact Sub.new ha, ha, O, Sub.refl O, q⟩
  · exact h.elim
end Lw
namespace Lw
open PySem L2 Dx
local macro_rules | `(tactic| walk_at "dx") => `(tactic| simp only [dVar, dC, dBin, dUn, dTst, dTru, dAnd, dOr, dNot, dAndV, dOrV, dNotV, dIf, dChain, dNil, dCons, dTup, dLst, dLstM, dDic0, dDic1, dNoP, dPart, dSl, dCB, dIsi, dIsiT, dNext, dSeq, dRet, dRetF, dRetN, dDrop, dIfS, dBreak, dCont, dAsg, gN, gTu, gCn, gNl, dPar, dSetIx, dApp, dISeq, dIRng1, dIRng2, dFor, dCall, dLc, dLcM, dYes, dwipe, ends, dRaise1, dRaise2, dSetFld, dFld, dTryAs, suiteE, dXf, dMake, dIsiC, dListM, dEqO, dMeth, dLc2,
  List.getElem?_cons_zero, List.getElem?_cons_succ, List.getElem?_nil, List.set_cons_zero, List.set_cons_succ, List.length_cons, List.length_nil, Nat.zero_add, Nat.reduceAdd, true_and])
local macro_rules | `(tactic| walk_at "df") => `(tactic| simp only [fAdd, fSub, fMul, fMod, fFd, fPow, fNeg, fLt, fLe, fGt, fGe, fI, fI0, fU, fIsN, fNotN, fIx, fSl, fLen, fInt, fAbs, fMax2, fMin2, fStr, fTuple, fList, fAll, fAny, fSum, fEq_ii, fNe_ii, fEq_ss, fNe_ss, fEq_bb, fNe_bb, atI_0, atI_1, atI_2, ixN_0, ixN_1, ixN_2, Option.bind_some, Option.map_some, shown?, D.py, D.pys, updO_upd, kindD_non, kindD_bl, kindD_int, kindD_str, kindD_lst, kindD_tup, kindD_dic, items_lst, items_tup, items_wl, itemsL_lst, itemsL_wl, trkD_lst, items_ref, itemsL_ref, trkD_ref, kindD_ref, lenD_lst, lenD_tup, lenD_wl, lenD_dic, lenD_ref, lenD_str, truth_non, truth_bl, truth_int, truth_str, truth_dic, truth_lst, truth_tup, truth_wl, truth_ref, keyD_int, keyD_str, noneD_non, noneD_bl, noneD_int, noneD_str, noneD_lst, noneD_tup, noneD_dic, noneD_ref, sz0, sz1, sz2, sz3, sz4, sz5, sz6, sz7, sz8, sz9, sz10, sz11, sz12, sz13, sz14, sz15, sz16, sz17, sz18, sz19, sz20, sz21, sz22, sz23, sz24, sz25, sz26, sz27, sz28, sz29, sz30, true_and, and_true])
abbrev rD (r : List Int) : List D := r.map D.int
def IsActs (O : DH) (d : D) (ms : List (Option Int)) : Prop := Row O d ∧ items O d = some (ms.map oD)
def IsRows (O : DH) (d : D) (rs : List (List Int)) : Prop := Rows O d ∧ ∃ rl, items O d = some rl ∧ (∀ r ∈ rl, items O r = some (its O r)) ∧ rl.map (its O) = rs.map rD
theorem IsActs.sub {O O' : DH} (s : Dx.Sub O O') {d : D} {ms : List (Option Int)} (h : IsActs O d ms) : IsActs O' d ms := ⟨h.1.sub s, by rw [items_sub s h.1.1]; exact h.2⟩
theorem IsRows.sub {O O' : DH} (s : Dx.Sub O O') {d : D} {rs : List (List Int)} (h : IsRows O d rs) : IsRows O' d rs := by
  obtain ⟨h1, rl, h2, h3, h4⟩ := h
  have hk := (h1.1.2 rl h2).2
  refine ⟨h1.sub s, rl, by rw [items_sub s h1.1.1]; exact h2, fun r hr => by rw [its_sub s (hk r hr), items_sub s (hk r hr)]; exact h3 r hr, ?_⟩
  rw [map_congr' (p := its O') (q := its O) fun r hr => its_sub s (hk r hr)]
  exact h4
def wid (rs : List (List Int)) : Nat := (rs.headD []).length
def sd_law_is_same (K : PySem.W.Frag) : SpD := fun ds O Q E => match ds with
  | [told, acts, rows] => ∃ ms rs, told = nbD K ms rs (wid rs) ∧ IsActs O acts ms ∧ IsRows O rows rs ∧ 0 < rs.length ∧ rs.length ≤ 1000 ∧ ms.length ≤ 1000 ∧ Q (.bl true) O
  | _ => False
theorem rd_law_is_same {K : PySem.W.Frag} {mg : Str → Option Value} (T : Facts K mg) : ∀ ds O Q E, sd_law_is_same K ds O Q E → t_law_is_same K (ends Q E) (dstart N_law_is_same.length ds) O := by
  intro ds O Q E h
  unfold sd_law_is_same at h
  split at h
  · rename_i told acts rows
    obtain ⟨ms, rs, rfl, ha, ⟨hR, rl, r1, r2, r3⟩, hn, hn2, hn3, q⟩ := h
    have hk := (hR.1.2 rl r1).2
    show t_law_is_same K (ends Q E) [some (nbD K ms rs (wid rs)), some acts, some rows, none, none] O
    unfold t_law_is_same
    obtain ⟨s0, ss, rfl⟩ : ∃ s0 ss, rs = s0 :: ss := by
      cases rs with
      | nil => exact absurd hn (Nat.lt_irrefl 0)
      | cons x y => exact ⟨x, y, rfl⟩
    obtain ⟨r0, rr, rfl⟩ : ∃ r0 rr, rl = r0 :: rr := by
      cases rl with
      | nil => cases r3
      | cons x y => exact ⟨x, y, rfl⟩
    have l0 : (its O r0).length = s0.length := by
      have := congrArg List.head? r3
      simp only [List.map_cons, List.head?_cons, Option.some.injEq] at this
      rw [this, List.length_map]
    have hlen : (r0 :: rr).length = (s0 :: ss).length := by
      have := congrArg List.length r3
      rw [List.length_map, List.length_map] at this
      exact this
    refine seq_step fun U hU => ?_
    walk_at "dx"
    refine ⟨T.i_Notebook, true, T.k_Notebook_Notebook, T.a_Notebook_letters, ?_⟩
    show fIx O rows (.int 0) _
    rw [fIx_eq r1 (atI_0 r0 rr), fLen_eq (r2 r0 List.mem_cons_self), fNe_ii, l0]
    rw [show decide ((wid (s0 :: ss) : Int) = (s0.length : Int)) = true from decide_eq_true rfl]
    refine ⟨T.a_Notebook_letters, ?_⟩
    subst hU
    refine seq_step fun U hU => ?_
    walk_at "dx"
    refine ⟨T.a_Notebook_moves, T.a_Notebook_moves, ?_⟩
    show fTuple O [acts] _
    rw [fTuple_eq ha.2]
    refine fNe_tup cOpt (by decide) (xs := ms) (ys := ms) ?_
    rw [decide_eq_true rfl]
    refine ⟨T.a_Notebook_moves, fun b hb => ?_⟩
    refine lc_map (fun _ => .bl false) (by rw [List.length_map]; exact small_line (by omega)) hb (fun _ _ => trivial) (fun e hem O2 R s w => ?_) ?_
    · obtain ⟨m, _, rfl⟩ := List.mem_map.mp hem
      cases m with
      | none => exact w
      | some i => exact w
    · rw [fAny_mapE (fun _ => false)]
      rw [show ((ms.map oD).any fun _ => false) = false by induction ms.map oD with
        | nil => rfl
        | cons x y ih => rw [List.any_cons, ih]; rfl]
      subst hU
      refine seq_step fun U hU => ?_
      walk_at "dx"
      refine ⟨T.a_Notebook_turns, T.a_Notebook_turns, fun b hb => ?_⟩
      refine lc_map (fun _ => .bl true) (by rw [List.length_map]; exact small_line (by omega)) hb (fun _ _ => trivial) (fun e hem O2 R s w => ?_) ?_
      · obtain ⟨m, _, rfl⟩ := List.mem_map.mp hem
        exact w
      · rw [fAll_mapE (fun _ => true)]
        rw [show (((s0 :: ss).map cInt.tup.d).all fun _ => true) = true by induction (s0 :: ss).map cInt.tup.d with
          | nil => rfl
          | cons x y ih => rw [List.all_cons, ih]; rfl]
        subst hU
        walk_at "dx"
        refine ⟨T.a_Notebook_turns, ?_⟩
        show (match items O rows with
          | some ds => _
          | none => False)
        rw [r1]
        intro b hb
        refine lc_map (fun r => .tup (its O r)) (by rw [hlen]; exact small_line (by omega)) hb (guard_sub r1) (fun r hem O2 R s w => ?_) ?_
        · have e1 : items O2 r = some (its O r) := by rw [items_sub s (hk r hem)]; exact r2 r hem
          walk_at "dx"
          simp only [fTuple_eq e1]
          exact w
        · rw [fTuple_eq (items_lst)]
          have em : (r0 :: rr).map (fun r => D.tup (its O r)) = (s0 :: ss).map cInt.tup.d := by
            have := congrArg (List.map D.tup) r3
            rw [List.map_map, List.map_map] at this
            exact this
          rw [em]
          refine fEq_tup cInt.tup (by decide) (xs := s0 :: ss) (ys := s0 :: ss) ?_
          rw [decide_eq_true rfl]
          exact ⟨O, Sub.refl O, q⟩
  · exact h.elim
end Lw
namespace Lw
open PySem L2 Dx
local macro_rules | `(tactic| walk_at "dx") => `(tactic| simp only [dVar, dC, dBin, dUn, dTst, dTru, dAnd, dOr, dNot, dAndV, dOrV, dNotV, dIf, dChain, dNil, dCons, dTup, dLst, dLstM, dDic0, dDic1, dNoP, dPart, dSl, dCB, dIsi, dIsiT, dNext, dSeq, dRet, dRetF, dRetN, dDrop, dIfS, dBreak, dCont, dAsg, gN, gTu, gCn, gNl, dPar, dSetIx, dApp, dISeq, dIRng1, dIRng2, dFor, dCall, dLc, dLcM, dYes, dwipe, ends, dRaise1, dRaise2, dSetFld, dFld, dTryAs, suiteE, dXf, dMake, dIsiC, dListM, dEqO, dMeth, dLc2,
  List.getElem?_cons_zero, List.getElem?_cons_succ, List.getElem?_nil, List.set_cons_zero, List.set_cons_succ, List.length_cons, List.length_nil, Nat.zero_add, Nat.reduceAdd, true_and])
local macro_rules | `(tactic| walk_at "df") => `(tactic| simp only [fAdd, fSub, fMul, fMod, fFd, fPow, fNeg, fLt, fLe, fGt, fGe, fI, fI0, fU, fIsN, fNotN, fIx, fSl, fLen, fInt, fAbs, fMax2, fMin2, fStr, fTuple, fList, fAll, fAny, fSum, fEq_ii, fNe_ii, fEq_ss, fNe_ss, fEq_bb, fNe_bb, atI_0, atI_1, atI_2, ixN_0, ixN_1, ixN_2, Option.bind_some, Option.map_some, shown?, D.py, D.pys, updO_upd, kindD_non, kindD_bl, kindD_int, kindD_str, kindD_lst, kindD_tup, kindD_dic, items_lst, items_tup, items_wl, itemsL_lst, itemsL_wl, trkD_lst, items_ref, itemsL_ref, trkD_ref, kindD_ref, lenD_lst, lenD_tup, lenD_wl, lenD_dic, lenD_ref, lenD_str, truth_non, truth_bl, truth_int, truth_str, truth_dic, truth_lst, truth_tup, truth_wl, truth_ref, keyD_int, keyD_str, noneD_non, noneD_bl, noneD_int, noneD_str, noneD_lst, noneD_tup, noneD_dic, noneD_ref, sz0, sz1, sz2, sz3, sz4, sz5, sz6, sz7, sz8, sz9, sz10, sz11, sz12, sz13, sz14, sz15, sz16, sz17, sz18, sz19, sz20, sz21, sz22, sz23, sz24, sz25, sz26, sz27, sz28, sz29, sz30, true_and, and_true])
def rowsD (rs : List (List Int)) : D := .lst (rs.map fun r => .lst (rD r))
theorem isRows_of (f g : List D → D) (hf : ∀ O es, items O (f es) = some es ∧ Kd O (f es)) (hg : ∀ O es, items O (g es) = some es ∧ Kd O (g es)) {rs : List (List Int)} (h1 : rs.length ≤ 1000) (h2 : ∀ r ∈ rs, r.length ≤ 1000) (O : DH) : IsRows O (g (rs.map fun r => f (rD r))) rs := by
  have hI : ∀ es : List D, its O (f es) = es := fun es => by unfold its; rw [(hf O es).1]; rfl
  have hk : ∀ e ∈ rs.map (fun r => f (rD r)), Kd O e := fun e he => by
    obtain ⟨r, _, rfl⟩ := List.mem_map.mp he
    exact (hf O _).2
  refine ⟨⟨⟨(hg O _).2, fun ds hd => ?_⟩, fun ds hd e he => ?_⟩, _, (hg O _).1, fun r hr => ?_, ?_⟩
  · rw [(hg O _).1] at hd
    cases hd
    exact ⟨by rw [List.length_map]; exact small_line (by omega), hk⟩
  · rw [(hg O _).1] at hd
    cases hd
    obtain ⟨r, hr, rfl⟩ := List.mem_map.mp he
    refine ⟨(hf O _).2, fun ds hd => ?_⟩
    rw [(hf O _).1] at hd
    cases hd
    refine ⟨by rw [List.length_map]; have := h2 r hr; exact small_line (by omega), fun x hx => ?_⟩
    obtain ⟨i, _, rfl⟩ := List.mem_map.mp hx
    rfl
  · obtain ⟨x, _, rfl⟩ := List.mem_map.mp hr
    rw [hI, (hf O _).1]
  · rw [List.map_map]
    exact map_congr' fun r _ => hI _
theorem lst_it (O : DH) (es : List D) : items O (.lst es) = some es ∧ Kd O (.lst es) := ⟨rfl, rfl⟩
theorem tup_it (O : DH) (es : List D) : items O (.tup es) = some es ∧ Kd O (.tup es) := ⟨rfl, rfl⟩
def sd_law_copied : SpD := fun ds O Q E => match ds with
  | [.ref v, d] => ∃ rs t m, d = rowsD rs ∧ rs.length ≤ 1000 ∧ (∀ r ∈ rs, r.length ≤ 1000) ∧ O v = some m ∧ VesM t m ∧ t < 999000 ∧ ∀ d' m', (∀ O, IsRows O d' rs) → VesM (t + 2) m' → Q d' (updO O v m')
  | _ => False
theorem rd_law_copied : ∀ ds O Q E, sd_law_copied ds O Q E → t_law_copied sd_draw (ends Q E) (dstart N_law_copied.length ds) O := by
  intro ds O Q E h
  unfold sd_law_copied at h
  split at h
  · rename_i v d
    obtain ⟨rs, t, m, rfl, h1, h2, hv, hm, ht, q⟩ := h
    show t_law_copied sd_draw (ends Q E) [some (.ref v), some (rowsD rs), none, none] O
    unfold t_law_copied
    refine seq_step fun U hU => ?_
    walk_at "dx"
    show (match items O (rowsD rs) with
      | some ds => _
      | none => False)
    rw [show items O (rowsD rs) = some (rs.map fun r => D.lst (rD r)) from rfl]
    intro a ha
    refine lc_map (fun e => e) (by rw [List.length_map]; exact small_line (by omega)) ha (fun _ _ => trivial) (fun e hem O2 R s w => ?_) ?_
    · obtain ⟨r, _, rfl⟩ := List.mem_map.mp hem
      exact w
    · rw [List.map_id']
      subst hU
      refine seq_step fun U hU => ?_
      walk_at "dx"
      simp only [g_law_draw_p2, mx_law_draw_p2]
      refine ⟨t, m, hv, hm, by omega, by decide, by decide, fun x1 m1 a1 b1 hm1 => ?_⟩
      try dsimp only
      rw [fEq_ii]
      have fin : ∀ f : List D → D, (∀ O es, items O (f es) = some es ∧ Kd O (f es)) → U (ends Q E) [some (.ref v), some (rowsD rs), some (.lst (rs.map fun r => f (rD r))), none] (updO O v m1) := by
        intro f hf
        subst hU
        walk_at "dx"
        simp only [g_law_draw_p2, mx_law_draw_p2]
        refine ⟨t + 1, m1, updO_same, hm1, by omega, by decide, by decide, fun x2 m2 a2 b2 hm2 => ?_⟩
        try dsimp only
        rw [fEq_ii, updO_upd]
        cases hd : decide (x2 = 0) with
        | true => exact ⟨_, Sub.refl _, q _ m2 (isRows_of f D.lst hf lst_it h1 h2) (hm2.mono (by omega))⟩
        | false => exact ⟨_, Sub.refl _, q _ m2 (isRows_of f D.tup hf tup_it h1 h2) (hm2.mono (by omega))⟩
      cases hd : decide (x1 = 0) with
      | false => exact fin D.lst lst_it
      | true =>
        show (match items (updO O v m1) (rowsD rs) with
          | some ds => _
          | none => False)
        rw [show items (updO O v m1) (rowsD rs) = some (rs.map fun r => D.lst (rD r)) from rfl]
        intro b hb
        refine lc_map (fun e => .tup (its O e)) (by rw [List.length_map]; exact small_line (by omega)) hb (fun _ _ => trivial) (fun e hem O2 R s w => ?_) ?_
        · obtain ⟨r, _, rfl⟩ := List.mem_map.mp hem
          exact w
        · rw [List.map_map]
          exact fin D.tup tup_it
  · exact h.elim
/-! ### what is no moves, no turns -/
def BadM (d : D) : Prop := (∀ O, Row O d) ∧ ∀ O tn, nbChk O d tn = .error "moves"
theorem nbChk_badm {O : DH} {d tn : D} {es : List D} (h : items O d = some es) (h2 : es.all moveOk = false) : nbChk O d tn = .error "moves" := by
  unfold nbChk
  rw [h]
  simp only [h2]
  split
  · rfl
  · rfl
theorem nbChk_len {O : DH} {d tn : D} {es : List D} (h : items O d = some es) (h2 : es.length = 0 ∨ 4 < es.length) : nbChk O d tn = .error "moves" := by
  unfold nbChk
  rw [h]
  simp only
  have : (decide ((1 : Int) ≤ es.length) && decide ((es.length : Int) ≤ 4)) = false := by
    rcases h2 with h2 | h2
    · rw [decide_eq_false (by omega), Bool.false_and]
    · rw [decide_eq_false (p := (es.length : Int) ≤ 4) (by omega), Bool.and_false]
  rw [if_pos this]
theorem repD_mem {n : Nat} {ds : List D} {e : D} (h : e ∈ repD n ds) : e ∈ ds := by
  unfold repD at h
  obtain ⟨l, hl, he⟩ := List.mem_flatten.mp h
  rw [(List.mem_replicate.mp hl).2] at he
  exact he
theorem repD_len (n : Nat) (ds : List D) : (repD n ds).length = n * ds.length := by
  unfold repD
  induction n with
  | zero => simp
  | succ n ih => rw [List.replicate_succ, List.flatten_cons, List.length_append, ih, Nat.succ_mul, Nat.add_comm]
def sd_law_bad_moves : SpD := fun ds O Q E => match ds with
  | [.ref v, d] => ∃ ms t m, d = .lst (List.map oD ms) ∧ 1 ≤ ms.length ∧ ms.length ≤ 4 ∧ O v = some m ∧ VesM t m ∧ t < 999000 ∧ ∀ d' m', BadM d' → VesM (t + 3) m' → Q d' (updO O v m')
  | _ => False
theorem rd_law_bad_moves : ∀ ds O Q E, sd_law_bad_moves ds O Q E → t_law_bad_moves sd_pick sd_draw (ends Q E) (dstart N_law_bad_moves.length ds) O := by
  intro ds O Q E h
  unfold sd_law_bad_moves at h
  split at h
  · rename_i v d
    obtain ⟨ms, t, m, rfl, l1, l2, hv, hm, ht, q⟩ := h
    have hleaf : ∀ e ∈ ms.map oD, leaf e = true := fun e he => by
      obtain ⟨x, _, rfl⟩ := List.mem_map.mp he
      cases x <;> rfl
    have hll : (ms.map oD).length = ms.length := List.length_map ..
    show t_law_bad_moves sd_pick sd_draw (ends Q E) [some (.ref v), some (.lst (ms.map oD)), none, none] O
    unfold t_law_bad_moves
    walk_at "dx"
    simp only [g_law_draw_p2, mx_law_draw_p2, g_law_pick_p2, mx_law_pick_p2]
    refine ⟨t, m, hv, hm, by omega, by decide, by decide, fun x1 m1 a1 b1 hm1 => ?_⟩
    try dsimp only
    rw [fEq_ii]
    cases hd : decide (x1 = 0) with
    | true =>
      walk_at "df"
      refine ⟨t + 1, m1, updO_same, hm1, by omega, Nat.succ_pos _, (by decide : 5 < 1000000), fun x m2 hx hm2 => ?_⟩
      rw [updO_upd]
      refine ⟨_, Sub.refl _, q x m2 ?_ (hm2.mono (by omega))⟩
      have hp : plain x = true := all_in plain rfl hx
      refine ⟨plain_row hp, fun O tn => ?_⟩
      simp only [List.mem_cons, List.not_mem_nil, or_false] at hx
      rcases hx with rfl | rfl | rfl | rfl | rfl <;> rfl
    | false =>
      try dsimp only
      rw [fEq_ii]
      cases hd2 : decide (x1 = 1) with
      | true =>
        walk_at "df"
        refine ⟨by decide, by decide, small_line (by rw [hll]; show ms.length * 5 ≤ 100000; omega), ?_⟩
        refine ⟨_, Sub.refl _, q _ m1 ?_ (hm1.mono (by omega))⟩
        have hs := cut_sub (repD (Int.toNat 5) (ms.map oD)) none (some 5)
        have ec : cutD (repD (Int.toNat 5) (ms.map oD)) none (some 5) = (repD 5 (ms.map oD)).take 5 := cut_take (n := 5)
        have el : ((repD 5 (ms.map oD)).take 5).length = 5 := by rw [List.length_take, repD_len, hll]; omega
        rw [ec] at hs ⊢
        refine ⟨plain_row (plain_lst (by omega) fun e he => hleaf e (repD_mem (List.mem_of_mem_take he))), fun O tn => ?_⟩
        exact nbChk_len (items_lst) (.inr (by omega))
      | false =>
        walk_at "df"
        rw [hll]
        refine ⟨t + 1, m1, updO_same, hm1, by omega, by omega, by omega, fun x2 m2 a2 b2 hm2 => ?_⟩
        walk_at "df"
        refine ⟨⟨by decide, by decide, by decide⟩, t + 2, m2, updO_same, hm2.mono (by omega), by omega, Nat.succ_pos _, (by decide : 7 < 1000000), fun x m3 hx hm3 => ?_⟩
        walk_at "df"
        have c1 := cut_sub (ms.map oD) none (some x2)
        have c2 := cut_sub (ms.map oD) (some (x2 + 1)) none
        rw [hll] at c1 c2
        have hb : leaf x = true ∧ moveOk x = false := by
          have e10 : (10 : Int) ^ Int.toNat 20 = 100000000000000000000 := by decide
          rw [e10] at hx
          simp only [List.mem_cons, List.not_mem_nil, or_false] at hx
          rcases hx with rfl | rfl | rfl | rfl | rfl | rfl | rfl <;> exact ⟨rfl, rfl⟩
        refine ⟨small_line (by rw [List.length_singleton]; omega), small_line (by rw [List.length_append, List.length_singleton]; omega), ?_⟩
        refine ⟨_, Sub.refl _, q _ m3 ?_ (hm3.mono (by omega))⟩
        refine ⟨plain_row (plain_lst (by rw [List.length_append, List.length_append, List.length_singleton]; omega) fun e he => ?_), fun O tn => nbChk_badm (items_lst) (all_mid hb.2)⟩
        rcases List.mem_append.mp he with he | he
        · rcases List.mem_append.mp he with he | he
          · exact hleaf e (c1.1 e he)
          · rw [List.mem_singleton.mp he]; exact hb.1
        · exact hleaf e (c2.1 e he)
  · exact h.elim
end Lw
namespace Lw
open PySem L2 Dx
local macro_rules | `(tactic| walk_at "dx") => `(tactic| simp only [dVar, dC, dBin, dUn, dTst, dTru, dAnd, dOr, dNot, dAndV, dOrV, dNotV, dIf, dChain, dNil, dCons, dTup, dLst, dLstM, dDic0, dDic1, dNoP, dPart, dSl, dCB, dIsi, dIsiT, dNext, dSeq, dRet, dRetF, dRetN, dDrop, dIfS, dBreak, dCont, dAsg, gN, gTu, gCn, gNl, dPar, dSetIx, dApp, dISeq, dIRng1, dIRng2, dFor, dCall, dLc, dLcM, dYes, dwipe, ends, dRaise1, dRaise2, dSetFld, dFld, dTryAs, suiteE, dXf, dMake, dIsiC, dListM, dEqO, dMeth, dLc2,
  List.getElem?_cons_zero, List.getElem?_cons_succ, List.getElem?_nil, List.set_cons_zero, List.set_cons_succ, List.length_cons, List.length_nil, Nat.zero_add, Nat.reduceAdd, true_and])
local macro_rules | `(tactic| walk_at "df") => `(tactic| simp only [fAdd, fSub, fMul, fMod, fFd, fPow, fNeg, fLt, fLe, fGt, fGe, fI, fI0, fU, fIsN, fNotN, fIx, fSl, fLen, fInt, fAbs, fMax2, fMin2, fStr, fTuple, fList, fAll, fAny, fSum, fEq_ii, fNe_ii, fEq_ss, fNe_ss, fEq_bb, fNe_bb, atI_0, atI_1, atI_2, ixN_0, ixN_1, ixN_2, Option.bind_some, Option.map_some, shown?, D.py, D.pys, updO_upd, kindD_non, kindD_bl, kindD_int, kindD_str, kindD_lst, kindD_tup, kindD_dic, items_lst, items_tup, items_wl, itemsL_lst, itemsL_wl, trkD_lst, items_ref, itemsL_ref, trkD_ref, kindD_ref, lenD_lst, lenD_tup, lenD_wl, lenD_dic, lenD_ref, lenD_str, truth_non, truth_bl, truth_int, truth_str, truth_dic, truth_lst, truth_tup, truth_wl, truth_ref, keyD_int, keyD_str, noneD_non, noneD_bl, noneD_int, noneD_str, noneD_lst, noneD_tup, noneD_dic, noneD_ref, sz0, sz1, sz2, sz3, sz4, sz5, sz6, sz7, sz8, sz9, sz10, sz11, sz12, sz13, sz14, sz15, sz16, sz17, sz18, sz19, sz20, sz21, sz22, sz23, sz24, sz25, sz26, sz27, sz28, sz29, sz30, true_and, and_true])
theorem cut_drop {ds : List D} {n : Nat} (h : n ≤ ds.length) : cutD ds (some (n : Int)) none = ds.drop n := by
  show (ds.drop (HT.sIx ds.length 0 (some (n : Int)))).take (ds.length - HT.sIx ds.length 0 (some (n : Int))) = _
  rw [HT.sIx_nat, Nat.min_eq_left h]
  exact List.take_of_length_le (by rw [List.length_drop]; omega)
section
variable {O : DH} {d : D} {es : List D} {n : Int}
theorem ar_none (h : items O d = none) : areTurns O d n = false := by unfold areTurns; rw [h]
theorem ar_len (h : items O d = some es) (h2 : (es.length : Int) ≠ n) : areTurns O d n = false := by
  unfold areTurns
  rw [h]
  show turnsOk O es n = false
  unfold turnsOk
  rw [decide_eq_false h2, Bool.false_and]
theorem ar_split (h : items O d = some es) (h2 : ((es.all fun r => (items O r).isSome) && ((decide ((2 : Int) ≤ width O es) && decide ((width O es : Int) ≤ 4)) && ((es.all fun r => decide ((rowLen O r : Int) = width O es)) && ((es.flatMap (its O)).all fun p => within p (some 0) (some (n - 1)))))) = false) : areTurns O d n = false := by
  unfold areTurns
  rw [h]
  show turnsOk O es n = false
  unfold turnsOk
  rw [h2, Bool.and_false]
theorem ar_width (h : items O d = some es) (h2 : width O es < 2 ∨ 4 < width O es) : areTurns O d n = false := by
  refine ar_split h ?_
  have : (decide ((2 : Int) ≤ width O es) && decide ((width O es : Int) ≤ 4)) = false := by
    rcases h2 with h2 | h2
    · rw [decide_eq_false (by omega), Bool.false_and]
    · rw [decide_eq_false (p := (width O es : Int) ≤ 4) (by omega), Bool.and_false]
  rw [this, Bool.false_and, Bool.and_false]
theorem all_false {α : Type} {l : List α} {p : α → Bool} {x : α} (hx : x ∈ l) (h : p x = false) : l.all p = false := by
  cases ha : l.all p with
  | false => rfl
  | true => rw [List.all_eq_true.mp ha x hx] at h; cases h
theorem ar_nolist (h : items O d = some es) {e : D} (he : e ∈ es) (h2 : items O e = none) : areTurns O d n = false := by
  refine ar_split h ?_
  rw [all_false (p := fun r => (items O r).isSome) he (by rw [h2]; rfl), Bool.false_and]
theorem ar_uneq (h : items O d = some es) {e : D} (he : e ∈ es) (h2 : rowLen O e ≠ width O es) : areTurns O d n = false := by
  refine ar_split h ?_
  rw [all_false (p := fun r => decide ((rowLen O r : Int) = width O es)) he (decide_eq_false (by omega)), Bool.false_and, Bool.and_false, Bool.and_false]
theorem ar_elem (h : items O d = some es) {e x : D} (he : e ∈ es) (hx : x ∈ its O e) (h2 : within x (some 0) (some (n - 1)) = false) : areTurns O d n = false := by
  refine ar_split h ?_
  rw [all_false (l := es.flatMap (its O)) (p := fun p => within p (some 0) (some (n - 1))) (List.mem_flatMap.mpr ⟨e, he, hx⟩) h2, Bool.and_false, Bool.and_false, Bool.and_false]
theorem rows_lst (h1 : es.length ≤ 100000) (h2 : ∀ e ∈ es, Row O e) : Rows O (.lst es) := ⟨⟨rfl, fun ds hd => by cases hd; exact ⟨small_line h1, fun e he => (h2 e he).1⟩⟩, fun ds hd e he => by cases hd; exact h2 e he⟩
end
theorem row_rD (r : List Int) (h : r.length ≤ 1000) (O : DH) : Row O (.lst (rD r)) := plain_row (plain_lst (by rw [List.length_map]; omega) fun e he => by obtain ⟨i, _, rfl⟩ := List.mem_map.mp he; rfl) O
theorem rows_plain {d : D} (h : plain d = true) (h2 : ∀ O, items O d = none) (O : DH) : Rows O d := ⟨plain_row h O, fun ds hd => by rw [h2] at hd; cases hd⟩
def nolist : D → Bool
  | .lst _ => false
  | .tup _ => false
  | _ => true
theorem nolist_none {d : D} (h1 : plain d = true) (h2 : nolist d = true) (O : DH) : items O d = none := by
  cases d with
  | lst => simp [nolist] at h2
  | tup => simp [nolist] at h2
  | wl => simp [Dx.plain, leaf] at h1
  | ref => simp [Dx.plain, leaf] at h1
  | _ => rfl
def GoodR (rs : List (List Int)) (n w : Nat) : Prop := rs.length = n ∧ ∀ r ∈ rs, r.length = w ∧ ∀ x ∈ r, 0 ≤ x ∧ x < (n : Int)
def sd_law_bad_turns : SpD := fun ds O Q E => match ds with
  | [.ref v, d] => ∃ rs n w t m, d = rowsD rs ∧ GoodR rs n w ∧ 1 ≤ n ∧ n ≤ 4 ∧ 2 ≤ w ∧ w ≤ 4 ∧ O v = some m ∧ VesM t m ∧ t < 999000 ∧ ∀ d' O' m', Dx.Sub (updO O v m') O' → (∀ O2 : DH, (∀ c, c ≠ v → O2 c = O' c) → Rows O2 d' ∧ areTurns O2 d' n = false) → VesM (t + 6) m' → Q d' O'
  | _ => False
theorem rd_law_bad_turns : ∀ ds O Q E, sd_law_bad_turns ds O Q E → t_law_bad_turns sd_pick sd_draw (ends Q E) (dstart N_law_bad_turns.length ds) O := by
  intro ds O Q E h
  unfold sd_law_bad_turns at h
  split at h
  · rename_i v d
    obtain ⟨rs, n, w, t, m, rfl, ⟨g1, g2⟩, n1, n4, w2, w4, hv, hm, ht, q⟩ := h
    show t_law_bad_turns sd_pick sd_draw (ends Q E) [some (.ref v), some (.lst (rs.map fun r => D.lst (rD r))), none, none, none, none, none, none] O
    have hrl : (rs.map fun r => D.lst (rD r)).length = n := by rw [List.length_map]; exact g1
    have hat : ∀ p : Nat, p < n → ∃ r, rs[p]? = some r ∧ r ∈ rs ∧ atI (rs.map fun r => D.lst (rD r)) (p : Int) = some (.lst (rD r)) := fun p hp => by
      have hp' : p < rs.length := by omega
      refine ⟨rs[p], List.getElem?_eq_getElem hp', List.getElem_mem hp', atI_nat ?_⟩
      rw [List.getElem?_map, List.getElem?_eq_getElem hp']
      rfl
    have hrow : ∀ r ∈ rs, ∀ O, Row O (.lst (rD r)) := fun r hr O => row_rD r (by have := (g2 r hr).1; omega) O
    have hitem : ∀ e ∈ rs.map (fun r => D.lst (rD r)), ∃ r ∈ rs, e = .lst (rD r) := fun e he => by
      obtain ⟨r, hr, rfl⟩ := List.mem_map.mp he
      exact ⟨r, hr, rfl⟩
    have hrowE : ∀ e ∈ rs.map (fun r => D.lst (rD r)), ∀ O, Row O e := fun e he O => by
      obtain ⟨r, hr, rfl⟩ := hitem e he
      exact hrow r hr O
    have hIt : ∀ O, items O (.lst (rs.map fun r => D.lst (rD r))) = some (rs.map fun r => D.lst (rD r)) := fun _ => rfl
    unfold t_law_bad_turns
    refine seq_step fun U hU => ?_
    walk_at "dx"
    simp only [g_law_draw_p2, mx_law_draw_p2]
    refine ⟨t, m, hv, hm, by omega, by decide, by decide, fun kind m1 a1 b1 hm1 => ?_⟩
    dsimp only
    rw [fLen_eq (items_lst), hrl]
    subst hU
    refine seq_step fun U hU => ?_
    walk_at "dx"
    simp only [g_law_draw_p2, mx_law_draw_p2]
    refine ⟨t + 1, m1, updO_same, hm1, by omega, by omega, by omega, fun place m2 a2 b2 hm2 => ?_⟩
    obtain ⟨p, rfl⟩ := Int.eq_ofNat_of_zero_le a2
    have hp : p < n := by omega
    obtain ⟨row, hrp, hrm, hra⟩ := hat p hp
    obtain ⟨row0, _, hr0m, hr0a⟩ := hat 0 (by omega)
    have hr0b : atI (rs.map fun r => D.lst (rD r)) 0 = some (.lst (rD row0)) := hr0a
    subst hU
    refine seq_step fun U hU => ?_
    walk_at "dx"
    simp only [g_law_draw_p2, mx_law_draw_p2]
    rw [fIx_eq (hIt _) hr0b, fLen_eq (items_lst)]
    have hl0 : (rD row0).length = w := by rw [List.length_map]; exact (g2 row0 hr0m).1
    have hlp : (rD row).length = w := by rw [List.length_map]; exact (g2 row hrm).1
    rw [hl0]
    refine ⟨t + 2, m2, updO_same, hm2.mono (by omega), by omega, by omega, by omega, fun index m3 a3 b3 hm3 => ?_⟩
    obtain ⟨j, rfl⟩ := Int.eq_ofNat_of_zero_le a3
    rw [updO_upd, updO_upd]
    subst hU
    have hu : ∀ m, (updO O v m) v = some m := fun m => updO_same
    refine seq_step fun U hU => ?_
    walk_at "dx"
    simp only [g_law_pick_p2, mx_law_pick_p2]
    rw [fEq_ii]
    cases hk0 : decide (kind = 0) with
    | true =>
      walk_at "df"
      refine ⟨t + 3, m3, updO_same, hm3.mono (by omega), by omega, Nat.succ_pos _, (by decide : 4 < 1000000), fun x m4 hx hm4 => ?_⟩
      have hp : (plain x && nolist x) = true := all_in (fun x => plain x && nolist x) rfl hx
      obtain ⟨hp1, hp2⟩ := Bool.and_eq_true_iff.mp hp
      have hno : ∀ O, items O x = none := nolist_none hp1 hp2
      rw [updO_upd]
      exact ⟨_, Sub.refl _, q x _ m4 (Sub.refl _) (fun O2 _ => ⟨rows_plain hp1 hno _, ar_none (hno _)⟩) (hm4.mono (by omega))⟩
    | false =>
    subst hU
    refine seq_step fun U hU => ?_
    walk_at "dx"
    rw [fEq_ii]
    cases hk1 : decide (kind = 1) with
    | true =>
      dsimp only
      rw [fIx_eq (hIt _) hra]
      walk_at "df"
      refine ⟨small_line (by rw [hrl]; show n + 1 ≤ 100000; omega), ?_⟩
      refine ⟨_, Sub.refl _, q _ _ m3 (Sub.refl _) (fun O2 _ => ⟨rows_lst (by rw [List.length_append, hrl]; show n + 1 ≤ 100000; omega) fun e he => ?_, ar_len (items_lst) (by rw [List.length_append, hrl]; show ((n + 1 : Nat) : Int) ≠ n; omega)⟩) (hm3.mono (by omega))⟩
      rcases List.mem_append.mp he with he | he
      · exact hrowE e he _
      · rw [List.mem_singleton.mp he]; exact hrow row hrm _
    | false =>
    subst hU
    refine seq_step fun U hU => ?_
    walk_at "dx"
    rw [fEq_ii]
    cases hk2 : decide (kind = 2) with
    | true =>
      walk_at "df"
      have hc := cut_sub (rs.map fun r => D.lst (rD r)) none (some ((n : Int) - 1))
      have hn1 : (n : Int) - 1 = ((n - 1 : Nat) : Int) := by omega
      have hcl : (cutD (rs.map fun r => D.lst (rD r)) none (some ((n : Int) - 1))).length = n - 1 := by rw [hn1, cut_take, List.length_take, hrl]; omega
      exact ⟨_, Sub.refl _, q _ _ m3 (Sub.refl _) (fun O2 _ => ⟨rows_lst (by omega) fun e he => hrowE e (hc.1 e he) _, ar_len (items_lst) (by omega)⟩) (hm3.mono (by omega))⟩
    | false =>
    subst hU
    refine seq_step fun U hU => ?_
    walk_at "dx"
    rw [fEq_ii]
    cases hk3 : decide (kind = 3) with
    | true =>
      dsimp only
      rw [hIt]
      intro a ha
      refine lc_map (fun e => .lst (cutD (repD 5 (its O e)) none (some 5))) (by rw [hrl]; exact small_line (by omega)) ha (fun _ _ => trivial) (fun e hem O2 R s w' => ?_) ?_
      · obtain ⟨r, hr, rfl⟩ := hitem e hem
        have hlr : (rD r).length = w := by rw [List.length_map]; exact (g2 r hr).1
        walk_at "dx"
        walk_at "df"
        exact ⟨by decide, by decide, small_line (by rw [hlr]; show w * 5 ≤ 100000; omega), w'⟩
      · have hel : ∀ e ∈ rs.map (fun r => D.lst (rD r)), ∃ l : List D, D.lst (cutD (repD 5 (its O e)) none (some 5)) = .lst l ∧ l.length = 5 ∧ ∀ x ∈ l, leaf x = true := fun e he => by
          obtain ⟨r, hr, rfl⟩ := hitem e he
          have hlr : (rD r).length = w := by rw [List.length_map]; exact (g2 r hr).1
          refine ⟨_, rfl, ?_, fun x hx => ?_⟩
          · rw [show cutD (repD 5 (its O (.lst (rD r)))) none (some 5) = (repD 5 (rD r)).take 5 from cut_take (n := 5), List.length_take, repD_len, hlr]
            omega
          · have := repD_mem ((cut_sub _ _ _).1 x hx)
            obtain ⟨i, _, rfl⟩ := List.mem_map.mp (show x ∈ r.map D.int from this)
            rfl
        refine ⟨_, Sub.refl _, q _ _ m3 (Sub.refl _) (fun O2 _ => ⟨rows_lst (by rw [List.length_map, hrl]; omega) fun e he => ?_, ar_width (items_lst) (.inr ?_)⟩) (hm3.mono (by omega))⟩
        · obtain ⟨e0, he0, rfl⟩ := List.mem_map.mp he
          obtain ⟨l, h1, h2, h3⟩ := hel e0 he0
          rw [h1]
          exact plain_row (plain_lst (by omega) h3) _
        · obtain ⟨x, xs, hx⟩ : ∃ x xs, rs.map (fun r => D.lst (rD r)) = x :: xs := by
            cases hh : rs.map (fun r => D.lst (rD r)) with
            | nil => rw [hh] at hrl; simp at hrl; omega
            | cons x xs => exact ⟨x, xs, rfl⟩
          rw [hx, List.map_cons]
          obtain ⟨l, h1, h2, _⟩ := hel x (by rw [hx]; exact List.mem_cons_self)
          rw [h1]
          show 4 < l.length
          omega
    | false =>
    subst hU
    refine seq_step fun U hU => ?_
    walk_at "dx"
    rw [fEq_ii]
    cases hk4 : decide (kind = 4) with
    | true =>
      dsimp only
      rw [hIt]
      intro a ha
      refine lc_map (fun e => .lst (cutD (its O e) none (some 1))) (by rw [hrl]; exact small_line (by omega)) ha (fun _ _ => trivial) (fun e hem O2 R s w' => ?_) ?_
      · obtain ⟨r, hr, rfl⟩ := hitem e hem
        exact w'
      · have hel : ∀ e ∈ rs.map (fun r => D.lst (rD r)), ∃ l : List D, D.lst (cutD (its O e) none (some 1)) = .lst l ∧ l.length = 1 ∧ ∀ x ∈ l, leaf x = true := fun e he => by
          obtain ⟨r, hr, rfl⟩ := hitem e he
          have hlr : (rD r).length = w := by rw [List.length_map]; exact (g2 r hr).1
          refine ⟨_, rfl, ?_, fun x hx => ?_⟩
          · rw [show cutD (its O (.lst (rD r))) none (some 1) = (rD r).take 1 from cut_take (n := 1), List.length_take, hlr]
            omega
          · have := (cut_sub _ _ _).1 x hx
            obtain ⟨i, _, rfl⟩ := List.mem_map.mp (show x ∈ r.map D.int from this)
            rfl
        refine ⟨_, Sub.refl _, q _ _ m3 (Sub.refl _) (fun O2 _ => ⟨rows_lst (by rw [List.length_map, hrl]; omega) fun e he => ?_, ar_width (items_lst) (.inl ?_)⟩) (hm3.mono (by omega))⟩
        · obtain ⟨e0, he0, rfl⟩ := List.mem_map.mp he
          obtain ⟨l, h1, h2, h3⟩ := hel e0 he0
          rw [h1]
          exact plain_row (plain_lst (by omega) h3) _
        · obtain ⟨x, xs, hx⟩ : ∃ x xs, rs.map (fun r => D.lst (rD r)) = x :: xs := by
            cases hh : rs.map (fun r => D.lst (rD r)) with
            | nil => rw [hh] at hrl; simp at hrl; omega
            | cons x xs => exact ⟨x, xs, rfl⟩
          rw [hx, List.map_cons]
          obtain ⟨l, h1, h2, _⟩ := hel x (by rw [hx]; exact List.mem_cons_self)
          rw [h1]
          show l.length < 2
          omega
    | false =>
    subst hU
    dsimp only
    refine seq_step fun U hU => ?_
    walk_at "dx"
    simp only [g_law_pick_p2, mx_law_pick_p2]
    refine ⟨small_line (by decide), t + 3, m3, updO_same, hm3.mono (by omega), by omega, Nat.succ_pos _, (by decide : 3 < 1000000), fun x m4 hx hm4 => ?_⟩
    rw [updO_upd]
    subst hU
    refine seq_step fun U hU => ?_
    generalize hrlD : rs.map (fun r => D.lst (rD r)) = rl at *
    have hpl : p < rl.length := by omega
    have fin : ∀ (L : D) (O4 : DH) (m5 : MO), Dx.Sub (updO O v m5) O4 → VesM (t + 6) m5 → (∀ O2 : DH, (∀ c, c ≠ v → O2 c = O4 c) → Row O2 L ∧ areTurns O2 (.lst (rl.take p ++ [L] ++ rl.drop (p + 1))) n = false) →
        U (ends Q E) [some (.ref v), some (.lst rl), some (.int kind), some (.int n), some (.int p), some (.int j), some L, none] O4 := by
      intro L O4 m5 s hm5 hL
      subst hU
      walk_at "dx"
      walk_at "df"
      have e1 : (p : Int) + 1 = ((p + 1 : Nat) : Int) := by omega
      rw [e1, cut_take, cut_drop (by omega)]
      have hlen : (rl.take p ++ [L] ++ rl.drop (p + 1)).length ≤ 1000 := by rw [List.length_append, List.length_append, List.length_singleton, List.length_take, List.length_drop]; omega
      refine ⟨small_line (by rw [List.length_take, List.length_singleton]; omega), small_line (by rw [List.length_append] at hlen; omega), ?_⟩
      refine ⟨_, Sub.refl _, q _ _ m5 s (fun O2 hO => ⟨rows_lst (by omega) fun e he => ?_, (hL O2 hO).2⟩) hm5⟩
      rcases List.mem_append.mp he with he | he
      · rcases List.mem_append.mp he with he | he
        · exact hrowE e (List.mem_of_mem_take he) _
        · rw [List.mem_singleton.mp he]; exact (hL O2 hO).1
      · exact hrowE e (List.mem_of_mem_drop he) _
    have hmid : ∀ L : D, L ∈ rl.take p ++ [L] ++ rl.drop (p + 1) := fun L => by simp
    walk_at "dx"
    simp only [g_law_pick_p2, mx_law_pick_p2, g_law_draw_p2, mx_law_draw_p2]
    rw [fEq_ii]
    cases hk5 : decide (kind = 5) with
    | true =>
      dsimp only
      rw [fIx_eq (hIt _) hra]
      simp only [items_lst]
      intro a ha
      have hva : v ≠ a := fun e => by rw [e, updO_same] at ha; cases ha
      walk_at "df"
      refine ⟨t + 4, m4, by rw [updO_ne hva]; exact updO_same, hm4.mono (by omega), by omega, Nat.succ_pos _, (by decide : 6 < 1000000), fun y m5 hy hm5 => ?_⟩
      have e3 : updO (updO (updO O v m4) a (.lst (rD row))) v m5 = updO (updO O v m5) a (.lst (rD row)) := by rw [updO_comm hva.symm, updO_upd]
      rw [e3]
      simp only [updO_same]
      have hj : ixN (rD row).length (j : Int) = some j := by
        have hj2 : j < w := by omega
        unfold ixN
        rw [if_pos (by omega), if_pos (by rw [hlp]; omega)]
        rfl
      rw [hj]
      dsimp only
      rw [updO_upd]
      have ha5 : updO O v m5 a = none := by rw [updO_ne hva.symm] at ha ⊢; exact ha
      have hy2 : leaf y = true ∧ within y (some 0) (some ((n : Int) - 1)) = false := by
        simp only [List.mem_cons, List.not_mem_nil, or_false] at hy
        rcases hy with rfl | rfl | rfl | rfl | rfl | rfl
        · exact ⟨rfl, by rw [within_int, decide_eq_false (p := (n : Int) ≤ n - 1) (by omega), Bool.and_false]⟩
        all_goals exact ⟨rfl, rfl⟩
      refine fin (.ref a) _ m5 (Sub.new ha5) (hm5.mono (by omega)) fun O2 hO => ?_
      have hit : items O2 (.ref a) = some ((rD row).set j y) := items_ref (by rw [hO a hva.symm]; exact updO_same)
      refine ⟨⟨?_, fun ds hd => ?_⟩, ar_elem (items_lst) (hmid _) (x := y) ?_ hy2.2⟩
      · show (kindD _ (.ref a)).isSome = true
        rw [kindD_ref (by rw [hO a hva.symm]; exact updO_same)]
        rfl
      · rw [hit] at hd
        cases hd
        refine ⟨by rw [List.length_set]; exact small_line (by omega), fun e he => ?_⟩
        rcases List.mem_or_eq_of_mem_set he with he | rfl
        · obtain ⟨i, _, rfl⟩ := List.mem_map.mp he
          rfl
        · exact leaf_kd hy2.1 _
      · unfold its
        rw [hit]
        exact List.mem_set (by omega) y
    | false =>
      have hxl : leaf x = true ∧ (∀ O, items O x = none) ∧ plain x = true := by
        simp only [List.mem_cons, List.not_mem_nil, or_false] at hx
        rcases hx with rfl | rfl | rfl <;> exact ⟨rfl, fun _ => rfl, rfl⟩
      have finx : ∀ (m5 : MO), VesM (t + 6) m5 → U (ends Q E) [some (.ref v), some (.lst rl), some (.int kind), some (.int n), some (.int p), some (.int j), some x, none] (updO O v m5) := fun m5 hm5 =>
        fin x _ m5 (Sub.refl _) hm5 fun O2 _ => ⟨plain_row hxl.2.2 _, ar_nolist (items_lst) (hmid x) (hxl.2.1 _)⟩
      simp only [fGt, fI0]
      cases hn1 : decide ((1 : Int) < n) with
      | false => exact finx m4 (hm4.mono (by omega))
      | true =>
        refine ⟨t + 4, m4, updO_same, hm4.mono (by omega), by omega, by decide, by decide, fun z m5 a5 b5 hm5 => ?_⟩
        dsimp only
        rw [fEq_ii, updO_upd]
        cases hz : decide (z = 0) with
        | false => exact finx m5 (hm5.mono (by omega))
        | true =>
          have n2 : 1 < n := by have := of_decide_eq_true hn1; omega
          have bad : ∀ L : List D, L.length ≠ w → L.length ≤ 1000 → (∀ e ∈ L, leaf e = true) → U (ends Q E) [some (.ref v), some (.lst rl), some (.int kind), some (.int n), some (.int p), some (.int j), some (.lst L), none] (updO O v m5) := by
            intro L hL hL2 hL3
            refine fin (.lst L) _ m5 (Sub.refl _) (hm5.mono (by omega)) fun O2 _ => ⟨plain_row (plain_lst (by omega) hL3) _, ?_⟩
            cases p with
            | zero =>
              obtain ⟨r0, r1, rr, hre⟩ : ∃ r0 r1 rr, rl = r0 :: r1 :: rr := by
                cases rl with
                | nil => simp at hrl; omega
                | cons r0 rr =>
                  cases rr with
                  | nil => simp at hrl; omega
                  | cons r1 rr => exact ⟨r0, r1, rr, rfl⟩
              obtain ⟨r, hr, he1⟩ := hitem r1 (by rw [hre]; simp)
              refine ar_uneq (items_lst) (e := r1) (by rw [hre]; simp) ?_
              show rowLen _ r1 ≠ width _ ([] ++ [D.lst L] ++ rl.drop 1)
              rw [he1]
              show (rD r).length ≠ L.length
              rw [List.length_map, (g2 r hr).1]
              exact fun e => hL e.symm
            | succ p =>
              obtain ⟨r0, rr, hre⟩ : ∃ r0 rr, rl = r0 :: rr := by
                cases rl with
                | nil => simp at hrl; omega
                | cons r0 rr => exact ⟨r0, rr, rfl⟩
              obtain ⟨r, hr, he1⟩ := hitem r0 (by rw [hre]; simp)
              refine ar_uneq (items_lst) (e := .lst L) (hmid _) ?_
              rw [hre, List.take_succ_cons, List.cons_append, List.cons_append]
              show L.length ≠ rowLen _ r0
              rw [he1]
              show L.length ≠ (rD r).length
              rw [List.length_map, (g2 r hr).1]
              exact hL
          dsimp only
          rw [fIx_eq (hIt _) hra, fLen_eq (items_lst), hlp]
          have hleafr : ∀ e ∈ rD row, leaf e = true := fun e he => by obtain ⟨i, _, rfl⟩ := List.mem_map.mp he; rfl
          dsimp only
          cases hw2 : decide ((2 : Int) < w) with
          | true =>
            dsimp only
            rw [fIx_eq (hIt _) hra]
            walk_at "df"
            have ec : cutD (rD row) (some 1) none = (rD row).drop 1 := cut_drop (n := 1) (by omega)
            rw [ec]
            exact bad _ (by rw [List.length_drop]; omega) (by rw [List.length_drop]; omega) fun e he => hleafr e (List.mem_of_mem_drop he)
          | false =>
            dsimp only
            rw [fIx_eq (hIt _) hra]
            walk_at "df"
            refine ⟨small_line (by rw [hlp]; show w + 1 ≤ 100000; omega), ?_⟩
            refine bad _ (by rw [List.length_append, hlp]; show w + 1 ≠ w; omega) (by rw [List.length_append, hlp]; show w + 1 ≤ 1000; omega) fun e he => ?_
            rcases List.mem_append.mp he with he | he
            · exact hleafr e he
            · rw [List.mem_singleton.mp he]; rfl
  · exact h.elim
end Lw
namespace Lw
open PySem L2 Dx
local macro_rules | `(tactic| walk_at "dx") => `(tactic| simp only [dVar, dC, dBin, dUn, dTst, dTru, dAnd, dOr, dNot, dAndV, dOrV, dNotV, dIf, dChain, dNil, dCons, dTup, dLst, dLstM, dDic0, dDic1, dNoP, dPart, dSl, dCB, dIsi, dIsiT, dNext, dSeq, dRet, dRetF, dRetN, dDrop, dIfS, dBreak, dCont, dAsg, gN, gTu, gCn, gNl, dPar, dSetIx, dApp, dISeq, dIRng1, dIRng2, dFor, dCall, dLc, dLcM, dYes, dwipe, ends, dRaise1, dRaise2, dSetFld, dFld, dTryAs, suiteE, dXf, dMake, dIsiC, dListM, dEqO, dMeth, dLc2,
  List.getElem?_cons_zero, List.getElem?_cons_succ, List.getElem?_nil, List.set_cons_zero, List.set_cons_succ, List.length_cons, List.length_nil, Nat.zero_add, Nat.reduceAdd, true_and])
local macro_rules | `(tactic| walk_at "df") => `(tactic| simp only [fAdd, fSub, fMul, fMod, fFd, fPow, fNeg, fLt, fLe, fGt, fGe, fI, fI0, fU, fIsN, fNotN, fIx, fSl, fLen, fInt, fAbs, fMax2, fMin2, fStr, fTuple, fList, fAll, fAny, fSum, fEq_ii, fNe_ii, fEq_ss, fNe_ss, fEq_bb, fNe_bb, atI_0, atI_1, atI_2, ixN_0, ixN_1, ixN_2, Option.bind_some, Option.map_some, shown?, D.py, D.pys, updO_upd, kindD_non, kindD_bl, kindD_int, kindD_str, kindD_lst, kindD_tup, kindD_dic, items_lst, items_tup, items_wl, itemsL_lst, itemsL_wl, trkD_lst, items_ref, itemsL_ref, trkD_ref, kindD_ref, lenD_lst, lenD_tup, lenD_wl, lenD_dic, lenD_ref, lenD_str, truth_non, truth_bl, truth_int, truth_str, truth_dic, truth_lst, truth_tup, truth_wl, truth_ref, keyD_int, keyD_str, noneD_non, noneD_bl, noneD_int, noneD_str, noneD_lst, noneD_tup, noneD_dic, noneD_ref, sz0, sz1, sz2, sz3, sz4, sz5, sz6, sz7, sz8, sz9, sz10, sz11, sz12, sz13, sz14, sz15, sz16, sz17, sz18, sz19, sz20, sz21, sz22, sz23, sz24, sz25, sz26, sz27, sz28, sz29, sz30, true_and, and_true])
def GoodM (ms : List (Option Int)) (w : Nat) : Prop := ∀ i, some i ∈ ms → 0 ≤ i ∧ i < (w : Int)
theorem moveOk_all {ms : List (Option Int)} (h : ∀ i, some i ∈ ms → 0 ≤ i ∧ i ≤ 3) : (ms.map oD).all moveOk = true := by
  refine List.all_eq_true.mpr fun e he => ?_
  obtain ⟨x, hx, rfl⟩ := List.mem_map.mp he
  cases x with
  | none => rfl
  | some i =>
    have := h i hx
    show (false || (decide ((0 : Int) ≤ i) && decide (i ≤ 3))) = true
    rw [decide_eq_true this.1, decide_eq_true this.2]
    rfl
theorem moveIn_all {ms : List (Option Int)} {w : Nat} (h : GoodM ms w) : (ms.map oD).all (moveIn w) = true := by
  refine List.all_eq_true.mpr fun e he => ?_
  obtain ⟨x, hx, rfl⟩ := List.mem_map.mp he
  cases x with
  | none => rfl
  | some i =>
    have := h i hx
    show (false || decide (i < (w : Int))) = true
    rw [decide_eq_true this.2]
    rfl
theorem isRows_turns {O : DH} {d : D} {rs : List (List Int)} {n w : Nat} (h : IsRows O d rs) (g : GoodR rs n w) (n1 : 1 ≤ n) (w2 : 2 ≤ w) (w4 : w ≤ 4) : areTurns O d n = true ∧ width O (its O d) = w ∧ (its O d).map (fun r => D.tup (its O r)) = rs.map cInt.tup.d := by
  obtain ⟨hR, rl, r1, r2, r3⟩ := h
  obtain ⟨g1, g2⟩ := g
  have hlen : rl.length = n := by
    have := congrArg List.length r3
    rw [List.length_map, List.length_map] at this
    omega
  have hit : its O d = rl := by unfold its; rw [r1]; rfl
  have hel : ∀ r ∈ rl, ∃ x ∈ rs, its O r = rD x := fun r hr => by
    have : its O r ∈ rs.map rD := by rw [← r3]; exact List.mem_map_of_mem hr
    obtain ⟨x, hx, e⟩ := List.mem_map.mp this
    exact ⟨x, hx, e.symm⟩
  have hrl : ∀ r ∈ rl, rowLen O r = w := fun r hr => by
    obtain ⟨x, hx, e⟩ := hel r hr
    unfold rowLen
    rw [r2 r hr]
    show (its O r).length = w
    rw [e, List.length_map]
    exact (g2 x hx).1
  have hw : width O rl = w := by
    cases rl with
    | nil => simp at hlen; omega
    | cons r rr => exact hrl r List.mem_cons_self
  refine ⟨?_, by rw [hit]; exact hw, ?_⟩
  · unfold areTurns
    rw [r1]
    show turnsOk O rl n = true
    unfold turnsOk
    rw [decide_eq_true (by omega), hw, decide_eq_true (by omega), decide_eq_true (p := (w : Int) ≤ 4) (by omega)]
    have a1 : (rl.all fun r => (items O r).isSome) = true := List.all_eq_true.mpr fun r hr => by rw [r2 r hr]; rfl
    have a2 : (rl.all fun r => decide ((rowLen O r : Int) = (w : Int))) = true := List.all_eq_true.mpr fun r hr => by rw [hrl r hr]; exact decide_eq_true rfl
    have a3 : ((rl.flatMap (its O)).all fun p => within p (some 0) (some ((n : Int) - 1))) = true := List.all_eq_true.mpr fun p hp => by
      obtain ⟨r, hr, hpr⟩ := List.mem_flatMap.mp hp
      obtain ⟨x, hx, e⟩ := hel r hr
      rw [e] at hpr
      obtain ⟨i, hi, rfl⟩ := List.mem_map.mp hpr
      have := (g2 x hx).2 i hi
      rw [within_int, decide_eq_true this.1, decide_eq_true (by omega)]
      rfl
    rw [a1, a2, a3]
    rfl
  · rw [hit]
    have := congrArg (List.map D.tup) r3
    rw [List.map_map, List.map_map] at this
    exact this
theorem nbChk_good {K : PySem.W.Frag} {O : DH} {a d : D} {ms : List (Option Int)} {rs : List (List Int)} {w : Nat} (ha : IsActs O a ms) (hr : IsRows O d rs) (gm : GoodM ms w) (g : GoodR rs ms.length w) (n1 : 1 ≤ ms.length) (n4 : ms.length ≤ 4) (w2 : 2 ≤ w) (w4 : w ≤ 4) :
    ∃ gs, nbChk O a d = .ok gs ∧ D.ins (He.ga K "Notebook") gs = nbD K ms rs (wid rs) := by
  obtain ⟨t1, t2, t3⟩ := isRows_turns hr g n1 w2 w4
  have hll : (ms.map oD).length = ms.length := List.length_map ..
  have hwid : wid rs = w := by
    unfold wid
    cases rs with
    | nil => have := g.1; simp at this; omega
    | cons r rr => exact (g.2 r List.mem_cons_self).1
  refine ⟨nbF O (ms.map oD) d, ?_, ?_⟩
  · unfold nbChk
    rw [ha.2]
    dsimp only
    rw [hll, decide_eq_true (by omega), decide_eq_true (p := (ms.length : Int) ≤ 4) (by omega), moveOk_all fun i hi => by have := gm i hi; omega, t1, t2, moveIn_all gm]
    rfl
  · unfold nbF nbD
    rw [t3, t2, hwid]
theorem nbChk_noturn {O : DH} {a d : D} {ms : List (Option Int)} (ha : items O a = some (ms.map oD)) (hm : ∀ i, some i ∈ ms → 0 ≤ i ∧ i ≤ 3) (n1 : 1 ≤ ms.length) (n4 : ms.length ≤ 4) (h : (areTurns O d ms.length && (ms.map oD).all (moveIn (width O (its O d)))) = false) : nbChk O a d = .error "turns" := by
  have hll : (ms.map oD).length = ms.length := List.length_map ..
  unfold nbChk
  rw [ha]
  dsimp only
  rw [hll, decide_eq_true (by omega), decide_eq_true (p := (ms.length : Int) ≤ 4) (by omega), moveOk_all hm, h]
  rfl
theorem notFirst_self (K : PySem.W.Frag) (C : Addr) : PySem.W.notFirst K C (.ref C) = true := by simp [PySem.W.notFirst]
theorem fNe_word {O : DH} {x : Str} {Q : D → Prop} (h : SeqAt.shaped (.tuple [.str x]) = true) (q : Q (.bl false)) : fNe O (.tup [.str x]) (.tup [.str x]) Q := by
  have e : PyData.eqv (.tuple [.str x]) (.tuple [.str x]) = true := PySem.SeqAt.eqv_refl _ (Bool.and_eq_true_iff.mp h).1
  show SeqAt.shaped (.tuple [.str x]) = true ∧ SeqAt.shaped (.tuple [.str x]) = true ∧ Q (.bl (!PyData.eqv (.tuple [.str x]) (.tuple [.str x])))
  rw [e]
  exact ⟨h, h, q⟩
theorem rows_back {rl : List D} {p : List Int → Prop} (h : ∀ y ∈ rl, ∃ r, y = D.lst (rD r) ∧ p r) : ∃ rs : List (List Int), rl = rs.map (fun r => D.lst (rD r)) ∧ ∀ r ∈ rs, p r := by
  induction rl with
  | nil => exact ⟨[], rfl, fun r hr => by cases hr⟩
  | cons y ys ih =>
    obtain ⟨r, e, hr⟩ := h y List.mem_cons_self
    obtain ⟨rs, e2, hrs⟩ := ih fun z hz => h z (List.mem_cons_of_mem _ hz)
    refine ⟨r :: rs, by rw [e, e2]; rfl, fun x hx => ?_⟩
    rcases List.mem_cons.mp hx with rfl | hx
    · exact hr
    · exact hrs x hx
theorem ints_back {l : List D} {p : Int → Prop} (h : ∀ y ∈ l, ∃ i, y = D.int i ∧ p i) : ∃ is : List Int, l = is.map D.int ∧ ∀ i ∈ is, p i := by
  induction l with
  | nil => exact ⟨[], rfl, fun r hr => by cases hr⟩
  | cons y ys ih =>
    obtain ⟨r, e, hr⟩ := h y List.mem_cons_self
    obtain ⟨rs, e2, hrs⟩ := ih fun z hz => h z (List.mem_cons_of_mem _ hz)
    refine ⟨r :: rs, by rw [e, e2]; rfl, fun x hx => ?_⟩
    rcases List.mem_cons.mp hx with rfl | hx
    · exact hr
    · exact hrs x hx
end Lw
namespace Lw
open PySem L2 Dx
local macro_rules | `(tactic| walk_at "dx") => `(tactic| simp only [dVar, dC, dBin, dUn, dTst, dTru, dAnd, dOr, dNot, dAndV, dOrV, dNotV, dIf, dChain, dNil, dCons, dTup, dLst, dLstM, dDic0, dDic1, dNoP, dPart, dSl, dCB, dIsi, dIsiT, dNext, dSeq, dRet, dRetF, dRetN, dDrop, dIfS, dBreak, dCont, dAsg, gN, gTu, gCn, gNl, dPar, dSetIx, dApp, dISeq, dIRng1, dIRng2, dFor, dCall, dLc, dLcM, dYes, dwipe, ends, dRaise1, dRaise2, dSetFld, dFld, dTryAs, suiteE, dXf, dMake, dIsiC, dListM, dEqO, dMeth, dLc2,
  List.getElem?_cons_zero, List.getElem?_cons_succ, List.getElem?_nil, List.set_cons_zero, List.set_cons_succ, List.length_cons, List.length_nil, Nat.zero_add, Nat.reduceAdd, true_and])
local macro_rules | `(tactic| walk_at "df") => `(tactic| simp only [fAdd, fSub, fMul, fMod, fFd, fPow, fNeg, fLt, fLe, fGt, fGe, fI, fI0, fU, fIsN, fNotN, fIx, fSl, fLen, fInt, fAbs, fMax2, fMin2, fStr, fTuple, fList, fAll, fAny, fSum, fEq_ii, fNe_ii, fEq_ss, fNe_ss, fEq_bb, fNe_bb, atI_0, atI_1, atI_2, ixN_0, ixN_1, ixN_2, Option.bind_some, Option.map_some, shown?, D.py, D.pys, updO_upd, kindD_non, kindD_bl, kindD_int, kindD_str, kindD_lst, kindD_tup, kindD_dic, items_lst, items_tup, items_wl, itemsL_lst, itemsL_wl, trkD_lst, items_ref, itemsL_ref, trkD_ref, kindD_ref, lenD_lst, lenD_tup, lenD_wl, lenD_dic, lenD_ref, lenD_str, truth_non, truth_bl, truth_int, truth_str, truth_dic, truth_lst, truth_tup, truth_wl, truth_ref, keyD_int, keyD_str, noneD_non, noneD_bl, noneD_int, noneD_str, noneD_lst, noneD_tup, noneD_dic, noneD_ref, sz0, sz1, sz2, sz3, sz4, sz5, sz6, sz7, sz8, sz9, sz10, sz11, sz12, sz13, sz14, sz15, sz16, sz17, sz18, sz19, sz20, sz21, sz22, sz23, sz24, sz25, sz26, sz27, sz28, sz29, sz30, true_and, and_true])
theorem updO_keep {O : DH} {v a : Addr} {m m2 m3 : MO} (hv : O v = some m) (ha : updO O v m2 a = none) : (updO (updO O v m2) a m3) v = some m2 ∧ v ≠ a := by
  have ne : v ≠ a := fun e => by rw [e, updO_same] at ha; cases ha
  exact ⟨by rw [updO_ne ne]; exact updO_same, ne⟩
theorem sub_at {O O' : DH} {v : Addr} {m : MO} (hv : O v = some m) (s : Dx.Sub O O') : O' v = some m := s v m hv
theorem ixN_nat {n j : Nat} (h : j < n) : ixN n (j : Int) = some j := by
  unfold ixN
  rw [if_pos (by omega), if_pos (by omega)]
  rfl
theorem isN_oD {O : DH} {x : Option Int} {Q : D → Prop} : fIsN O (oD x) .non Q = Q (.bl x.isNone) := by cases x <;> rfl
theorem isActs_ref {O : DH} {a : Addr} {ms : List (Option Int)} (h : O a = some (.lst (ms.map oD))) (hl : ms.length ≤ 1000) : IsActs O (.ref a) ms := by
  refine ⟨⟨?_, fun ds hd => ?_⟩, items_ref h⟩
  · show (kindD O (.ref a)).isSome = true
    rw [kindD_ref h]
    rfl
  · rw [items_ref h] at hd
    cases hd
    refine ⟨by rw [List.length_map]; exact small_line (by omega), fun e he => ?_⟩
    obtain ⟨x, _, rfl⟩ := List.mem_map.mp he
    cases x <;> rfl
theorem isRows_ref {O : DH} {a : Addr} {bs : List Addr} {rs : List (List Int)} (h : O a = some (.lst (bs.map .ref))) (hl : bs.length = rs.length) (h1 : rs.length ≤ 1000) (h2 : ∀ r ∈ rs, r.length ≤ 1000)
    (hat : ∀ (k : Nat) (b : Addr), bs[k]? = some b → ∃ r, rs[k]? = some r ∧ O b = some (.lst (rD r))) : IsRows O (.ref a) rs := by
  have hel : ∀ e ∈ bs.map D.ref, ∃ b r, e = .ref b ∧ r ∈ rs ∧ O b = some (.lst (rD r)) := fun e he => by
    obtain ⟨b, hb, rfl⟩ := List.mem_map.mp he
    obtain ⟨k, hk⟩ := List.getElem?_of_mem hb
    obtain ⟨r, hr, ho⟩ := hat k b hk
    exact ⟨b, r, rfl, List.mem_of_getElem? hr, ho⟩
  have hkd : ∀ e ∈ bs.map D.ref, Kd O e := fun e he => by
    obtain ⟨b, r, rfl, _, ho⟩ := hel e he
    show (kindD O (.ref b)).isSome = true
    rw [kindD_ref ho]
    rfl
  have hits : ∀ b r, O b = some (.lst (rD r)) → its O (.ref b) = rD r := fun b r ho => by unfold its; rw [items_ref ho]; rfl
  refine ⟨⟨⟨?_, fun ds hd => ?_⟩, fun ds hd e he => ?_⟩, bs.map D.ref, items_ref h, fun e he => ?_, ?_⟩
  · show (kindD O (.ref a)).isSome = true
    rw [kindD_ref h]
    rfl
  · rw [items_ref h] at hd
    cases hd
    exact ⟨by rw [List.length_map]; exact small_line (by omega), hkd⟩
  · rw [items_ref h] at hd
    cases hd
    obtain ⟨b, r, rfl, hr, ho⟩ := hel e he
    refine ⟨hkd _ he, fun ds hd => ?_⟩
    rw [items_ref ho] at hd
    cases hd
    refine ⟨by rw [List.length_map]; have := h2 r hr; exact small_line (by omega), fun x hx => ?_⟩
    obtain ⟨i, _, rfl⟩ := List.mem_map.mp hx
    rfl
  · obtain ⟨b, r, rfl, _, ho⟩ := hel e he
    rw [hits b r ho, items_ref ho]
  · refine List.ext_getElem? fun k => ?_
    rw [List.getElem?_map, List.getElem?_map, List.getElem?_map]
    cases hb : bs[k]? with
    | none =>
      have := List.getElem?_eq_none_iff.mp hb
      rw [List.getElem?_eq_none (by omega)]
      rfl
    | some b =>
      obtain ⟨r, hr, ho⟩ := hat k b hb
      rw [hr]
      show some (its O (.ref b)) = some (rD r)
      rw [hits b r ho]
theorem rd_law {K : PySem.W.Frag} {mg : Str → Option Value} (T : Facts K mg) : ∀ ds O Q E, sd_law ds O Q E → t_law K (sd_law_made K) sd_law_copied sd_draw sd_law_bad_turns sd_pick sd_law_bad_moves (sd_law_is_same K) (sd_Notebook___eq__ K) sd_vessel (ends Q E) (dstart N_law.length ds) O := by
  intro ds O Q E h
  unfold sd_law at h
  split at h
  · obtain ⟨ns, rfl, hl, hb, rfl, q⟩ := h
    show t_law K (sd_law_made K) sd_law_copied sd_draw sd_law_bad_turns sd_pick sd_law_bad_moves (sd_law_is_same K) (sd_Notebook___eq__ K) sd_vessel (ends Q E) [some (.wl (ns.map .int)), none, none, none, none, none, none, none, none, none, none, none, none, none, none, none, none, none, none] noO
    unfold t_law
    refine seq_step fun U hU => ?_
    walk_at "dx"
    simp only [g_law_store_p1, mx_law_store_p1]
    refine ⟨ns, rfl, by omega, fun v m hv hm => ?_⟩
    subst hU
    refine seq_step fun U hU => ?_
    unfold dFor
    walk_at "dx"
    refine ⟨by decide, by decide, ?_⟩
    refine forGo_ind (fun k ρ O => (∃ y2 y3 y4 y5 y6 y7 y8 y9 y10 y11 y12 y13 y14 y15 y16 y17 y18, ρ = [some (.wl (ns.map .int)), some (.ref v), y2, y3, y4, y5, y6, y7, y8, y9, y10, y11, y12, y13, y14, y15, y16, y17, y18]) ∧ ∃ m, O v = some m ∧ VesM (1000 * k) m) (fun _ _ _ _ => trivial) ⟨⟨_, _, _, _, _, _, _, _, _, _, _, _, _, _, _, _, _, rfl⟩, m, updO_same, hm.mono (by omega)⟩ (fun k d ρ O N hk hkn j nx => ?_) fun ρ O j => ?_
    · obtain ⟨⟨y2, y3, y4, y5, y6, y7, y8, y9, y10, y11, y12, y13, y14, y15, y16, y17, y18, rfl⟩, m, hv, hm⟩ := j
      rw [intsFrom_len] at hkn
      have hkn : k < 3 := hkn
      obtain ⟨t, et⟩ : ∃ t, t = 1000 * (k : Int) := ⟨_, rfl⟩
      rw [← et] at hm
      refine seq_step fun U1 hU1 => ?_
      walk_at "dx"
      simp only [g_law_draw_p2, mx_law_draw_p2]
      refine ⟨t, m, hv, hm, by omega, by decide, by decide, fun d1 m1 a1 b1 hm1 => ?_⟩
      walk_at "df"
      refine ⟨t + 1, m1, updO_same, hm1, by omega, by decide, by decide, fun d2 m2 a2 b2 hm2 => ?_⟩
      walk_at "df"
      obtain ⟨n, en, n1, n4⟩ : ∃ n : Nat, 1 + d1 = (n : Int) ∧ 1 ≤ n ∧ n ≤ 4 := ⟨(1 + d1).toNat, by omega, by omega, by omega⟩
      obtain ⟨w, ew, w2, w4⟩ : ∃ w : Nat, 2 + d2 = (w : Int) ∧ 2 ≤ w ∧ w ≤ 4 := ⟨(2 + d2).toNat, by omega, by omega, by omega⟩
      rw [en, ew]
      clear en ew
      -- acts
      have hv2 : (updO O v m2) v = some m2 := updO_same
      have hv0 := hv
      clear hv
      generalize hO2 : updO O v m2 = O2 at *
      subst hU1
      refine seq_step fun U1 hU1 => ?_
      walk_at "dx"
      refine ⟨by omega, by omega, fun a ha => ?_⟩
      refine lc_draw (v := v) (m0 := m2) (fun _ _ => trivial) (fun k m => VesM (t + 2 + k) m) (fun _ d => ∃ i, d = D.int i ∧ (0 ≤ i ∧ i < 2 * (w : Int))) (by rw [intsFrom_len]; exact small_line (by omega)) ha hv2 (hm2.mono (by omega)) (fun k d hk O2 m R hO2 im r => ?_) fun ys m3 hl hp hm3 => ?_
      · have hkn := (intsFrom_get hk).1
        walk_at "dx"
        simp only [g_law_draw_p2, mx_law_draw_p2]
        walk_at "df"
        refine ⟨cm_small (by decide) (by decide), t + 2 + k, m, hO2, im, by omega, by omega, by omega, fun r2 m3 a2 b2 hm3 => ?_⟩
        exact r _ m3 ⟨_, rfl, a2, b2⟩ (hm3.mono (by omega))
      rw [intsFrom_len] at hl hm3
      have hl : ys.length = n := hl
      obtain ⟨is, rfl, his⟩ := ints_back (all_get hp)
      rw [List.length_map] at hl
      clear hp
      -- kept
      have hv3 : (updO O2 v m3) v = some m3 := updO_same
      generalize hO3 : updO O2 v m3 = O3 at *
      subst hU1
      refine seq_step fun U1 hU1 => ?_
      walk_at "dx"
      intro a3 ha3
      refine lc_map (fun e => match e with
        | .int i => if i < (w : Int) then .int i else .non
        | d => d) (by rw [List.length_map]; exact small_line (by omega)) ha3 (fun _ _ => trivial) (fun e hem O4 R s r => ?_) ?_
      · obtain ⟨i, _, rfl⟩ := List.mem_map.mp hem
        walk_at "dx"
        walk_at "df"
        by_cases hi : i < (w : Int)
        · rw [decide_eq_true hi]
          dsimp only at r ⊢
          rw [if_pos hi] at r
          exact r
        · rw [decide_eq_false hi]
          dsimp only at r ⊢
          rw [if_neg hi] at r
          exact r
      obtain ⟨ms, hms, hml, hgm⟩ : ∃ ms : List (Option Int), (is.map D.int).map (fun e => match e with
        | .int i => if i < (w : Int) then .int i else .non
        | d => d) = ms.map oD ∧ ms.length = n ∧ GoodM ms w := by
        refine ⟨is.map fun i => if i < (w : Int) then some i else none, ?_, by rw [List.length_map]; exact hl, fun i hi => ?_⟩
        · rw [List.map_map, List.map_map]
          refine map_congr' fun i _ => ?_
          show (if i < (w : Int) then D.int i else D.non) = oD (if i < (w : Int) then some i else none)
          split <;> rfl
        · obtain ⟨x, hx, e⟩ := List.mem_map.mp hi
          have := his x hx
          split at e
          · cases e; omega
          · cases e
      rw [hms]
      clear hms
      -- rows
      subst hU1
      refine seq_step fun U1 hU1 => ?_
      walk_at "dx"
      refine ⟨by omega, by omega, fun a4 ha4 => ?_⟩
      refine lc_draw (v := v) (m0 := m3) (fun _ _ => trivial) (fun k m => VesM (t + 6 + 4 * k) m) (fun _ d => ∃ r, d = D.lst (rD r) ∧ (r.length = w ∧ ∀ x ∈ r, 0 ≤ x ∧ x < (n : Int))) (by rw [intsFrom_len]; exact small_line (by omega)) ha4 hv3 (hm3.mono (by omega)) (fun k d hk O4 m R hO4 im r => ?_) fun ys m5 hl5 hp hm5 => ?_
      · have hkn := (intsFrom_get hk).1
        walk_at "dx"
        refine ⟨by omega, by omega, fun a5 ha5 => ?_⟩
        refine lc_draw (v := v) (m0 := m) (fun _ _ => trivial) (fun j m => VesM (t + 6 + 4 * k + j) m) (fun _ d => ∃ i, d = D.int i ∧ (0 ≤ i ∧ i < (n : Int))) (by rw [intsFrom_len]; exact small_line (by omega)) ha5 hO4 (im.mono (by omega)) (fun j d hj O5 m R hO5 im r => ?_) fun zs m6 hl6 hp6 hm6 => ?_
        · have hjn := (intsFrom_get hj).1
          walk_at "dx"
          simp only [g_law_draw_p2, mx_law_draw_p2]
          refine ⟨_, m, hO5, im, by omega, by omega, by omega, fun r2 m3 a2 b2 hm3 => ?_⟩
          exact r _ m3 ⟨_, rfl, a2, b2⟩ (hm3.mono (by omega))
        · rw [intsFrom_len] at hl6 hm6
          have hl6 : zs.length = w := hl6
          obtain ⟨js, rfl, hjs⟩ := ints_back (all_get hp6)
          rw [List.length_map] at hl6
          exact r _ m6 ⟨js, rfl, hl6, hjs⟩ (hm6.mono (by omega))
      rw [intsFrom_len] at hl5 hm5
      have hl5 : ys.length = n := hl5
      obtain ⟨rs, rfl, hrs⟩ := rows_back (all_get hp)
      rw [List.length_map] at hl5
      clear hp
      have hG : GoodR rs n w := ⟨hl5, hrs⟩
      have hRows : ∀ O, IsRows O (.lst (rs.map fun r => D.lst (rD r))) rs := fun O => isRows_of D.lst D.lst lst_it lst_it (by omega) (fun r hr => by have := (hrs r hr).1; omega) O
      have hActs : ∀ O, IsActs O (.lst (ms.map oD)) ms := fun O => ⟨plain_row (plain_lst (by rw [List.length_map]; omega) fun e he => by
        obtain ⟨x, _, rfl⟩ := List.mem_map.mp he
        cases x <;> rfl) O, rfl⟩
      have hm5 : VesM (t + 30) m5 := hm5.mono (by omega)
      have hv5 : (updO O3 v m5) v = some m5 := updO_same
      generalize hO5 : updO O3 v m5 = O5 at *
      -- some, lines
      subst hU1
      refine seq_step fun U1 hU1 => ?_
      walk_at "dx"
      simp only [items_lst]
      intro a8 ha8 a9 ha9
      have nv8 : v ≠ a8 := ne_free hv5 ha8
      have hmss : (rs.map fun r => D.lst (rD r)).length = n := by rw [List.length_map]; exact hl5
      have hr9 : ∀ e ∈ rs.map (fun r => D.lst (rD r)), ∃ r ∈ rs, e = .lst (rD r) := fun e he => by
        obtain ⟨r, hr, rfl⟩ := List.mem_map.mp he
        exact ⟨r, hr, rfl⟩
      refine lc_copies (es := its noO) (show 18 < 19 by decide) (by rw [hmss]; exact small_line (by omega)) ha9 (fun _ _ => trivial) (fun e he => by obtain ⟨r, _, rfl⟩ := hr9 e he; exact ⟨rfl, rfl⟩) fun bs O9 hbl s9 h9 hat hfr hnd => ?_
      have hat : ∀ (k : Nat) (b : Addr), bs[k]? = some b → ∃ r, rs[k]? = some r ∧ O9 b = some (.lst (rD r)) := fun k b hk => by
        obtain ⟨d', h1, h2⟩ := hat k b hk
        rw [List.getElem?_map] at h1
        cases hr : rs[k]? with
        | none => rw [hr] at h1; cases h1
        | some r => rw [hr] at h1; cases h1; exact ⟨r, rfl, h2⟩
      have hv9 : O9 v = some m5 := s9 v m5 (by rw [updO_ne nv8]; exact hv5)
      have h8 : O9 a8 = some (.lst (ms.map oD)) := s9 a8 _ updO_same
      have nb : ∀ b ∈ bs, v ≠ b ∧ a8 ≠ b ∧ a9 ≠ b := fun b hb => by
        have h := (hfr b hb).1
        refine ⟨fun e => ?_, fun e => ?_, fun e => (hfr b hb).2 e.symm⟩
        · rw [← e, updO_ne nv8, hv5] at h
          cases h
        · rw [← e, updO_same] at h
          cases h
      have n98 : a9 ≠ a8 := fun e => by rw [e, updO_same] at ha9; cases ha9
      have n9v : a9 ≠ v := fun e => by rw [e, updO_ne nv8, hv5] at ha9; cases ha9
      have hbl : bs.length = rs.length := by rw [hbl, List.length_map]
      clear s9 hfr ha9 ha8
      -- told
      subst hU1
      refine seq_step fun U1 hU1 => ?_
      walk_at "dx"
      simp only [g_law_draw_p2, mx_law_draw_p2, g_law_made_p3, mx_law_made_p3]
      refine ⟨t + 30, m5, hv9, hm5, by omega, by decide, by decide, fun d3 m6 a6 b6 hm6 => ?_⟩
      dsimp only
      rw [fEq_ii]
      have hv10 : (updO O9 v m6) v = some m6 := updO_same
      have h8' : (updO O9 v m6) a8 = some (.lst (ms.map oD)) := by rw [updO_ne nv8.symm]; exact h8
      have h9' : (updO O9 v m6) a9 = some (.lst (bs.map .ref)) := by rw [updO_ne n9v]; exact h9
      have hat' : ∀ (k : Nat) (b : Addr), bs[k]? = some b → ∃ r, rs[k]? = some r ∧ (updO O9 v m6) b = some (.lst (rD r)) := fun k b hk => by
        rw [updO_ne (nb b (List.mem_of_getElem? hk)).1.symm]
        exact hat k b hk
      generalize hO10 : updO O9 v m6 = O10 at *
      have good : ∀ {O : DH} {a d : D} {ms' : List (Option Int)} {rs' : List (List Int)} {b : Bool} {Qx : QD} {Ex : XD}, IsActs O a ms' → IsRows O d rs' → GoodM ms' w → ms'.length = n → GoodR rs' n w → Qx (nbD K ms' rs' (wid rs')) O → sd_law_made K [a, d, .bl b] O Qx Ex := fun {O a d ms' rs' b Qx Ex} ha hr gm gl g qx => by
        obtain ⟨gs, e1, e2⟩ := nbChk_good (K := K) ha hr gm (by rw [gl]; exact g) (by omega) (by omega) w2 w4
        refine ⟨ha.1, hr.1, ?_⟩
        rw [e1]
        show Qx (.ins (He.ga K "Notebook") gs) O
        rw [e2]
        exact qx
      refine good (isActs_ref h8' (by omega)) (isRows_ref h9' hbl (by omega) (fun r hr => by have := (hrs r hr).1; omega) hat') hgm hml hG ?_
      have same : ∀ {O : DH} {a d : D} {ms' : List (Option Int)} {rs' : List (List Int)} {Qx : QD} {Ex : XD}, IsActs O a ms' → IsRows O d rs' → ms'.length = n → GoodR rs' n w → Qx (.bl true) O → sd_law_is_same K [nbD K ms' rs' (wid rs'), a, d] O Qx Ex := fun {O a d ms' rs' Qx Ex} ha hr gl g qx => ⟨ms', rs', rfl, ha, hr, by rw [g.1]; omega, by rw [g.1]; omega, by omega, qx⟩
      subst hU1
      refine seq_step fun U1 hU1 => ?_
      walk_at "dx"
      simp only [g_law_is_same_p3, mx_law_is_same_p3]
      refine same (hActs _) (hRows _) hml hG ?_
      simp only [Bool.not_true]
      -- changes behind the making
      subst hU1
      refine seq_step fun U1 hU1 => ?_
      walk_at "dx"
      have hmsl : (ms.map oD).length = n := by rw [List.length_map]; exact hml
      have atm : ∀ p : Nat, p < n → ∃ x, ms[p]? = some x ∧ atI (ms.map oD) (p : Int) = some (oD x) := fun p hp => by
        have hp' : p < ms.length := by omega
        exact ⟨ms[p], List.getElem?_eq_getElem hp', atI_nat (by rw [List.getElem?_map, List.getElem?_eq_getElem hp']; rfl)⟩
      obtain ⟨x0, _, hx0⟩ := atm 0 (by omega)
      have hx0 : atI (ms.map oD) 0 = some (oD x0) := hx0
      rw [fIx_eq (items_lst) hx0, isN_oD]
      have i0 : ixN (ms.map oD).length 0 = some 0 := ixN_nat (j := 0) (by omega)
      simp only [h8', i0]
      have next : ∀ y : D, U1 { nx := N, rt := Q, bk := fun ρ' O' => U (ends Q E) ρ' O', ct := N, ex := fun c f x O => ∃ O2, Dx.Sub O2 O ∧ E c f O2 }
          [some (D.wl (List.map D.int ns)), some (D.ref v), some d, some (D.int ↑n), some (D.int ↑w), some (D.lst (List.map D.int is)), some (D.lst (List.map oD ms)), some (D.lst (List.map (fun r => D.lst (rD r)) rs)), some (D.ref a8), some (D.ref a9), some (nbD K ms rs ↑(wid rs)), y11, y12, y13, y14, y15, y16, y17, y18]
          (updO O10 a8 (MO.lst ((ms.map oD).set 0 y))) := by
        intro y
        have hv11 : (updO O10 a8 (MO.lst ((ms.map oD).set 0 y))) v = some m6 := by rw [updO_ne nv8]; exact hv10
        have h9' : (updO O10 a8 (MO.lst ((ms.map oD).set 0 y))) a9 = some (.lst (bs.map .ref)) := by rw [updO_ne n98]; exact h9'
        have hat' : ∀ (k : Nat) (b : Addr), bs[k]? = some b → ∃ r, rs[k]? = some r ∧ (updO O10 a8 (MO.lst ((ms.map oD).set 0 y))) b = some (.lst (rD r)) := fun k b hk => by
          rw [updO_ne (nb b (List.mem_of_getElem? hk)).2.1.symm]
          exact hat' k b hk
        generalize updO O10 a8 (MO.lst ((ms.map oD).set 0 y)) = O11 at *
        subst hU1
        refine seq_step fun U1 hU1 => ?_
        walk_at "dx"
        have hnb : n - 1 < bs.length := by omega
        obtain ⟨r, hr, hOb⟩ := hat' (n - 1) bs[n - 1] (List.getElem?_eq_getElem hnb)
        have hbm : bs[n - 1] ∈ bs := List.getElem_mem hnb
        have e1 : atI (bs.map D.ref) ((n : Int) - 1) = some (.ref bs[n - 1]) := by
          rw [show (n : Int) - 1 = ((n - 1 : Nat) : Int) by omega]
          exact atI_nat (by rw [List.getElem?_map, List.getElem?_eq_getElem hnb]; rfl)
        simp only [fSub, fI0]
        rw [fIx_eq (items_ref h9') e1]
        have hrl : (rD r).length = w := by rw [List.length_map]; exact (hrs r (List.mem_of_getElem? hr)).1
        have i1 : ixN (rD r).length 0 = some 0 := ixN_nat (j := 0) (by omega)
        simp only [hOb, i1]
        have hv12 : (updO O11 bs[n - 1] (MO.lst ((rD r).set 0 (.int 7)))) v = some m6 := by rw [updO_ne (nb _ hbm).1]; exact hv11
        have h9'' : (updO O11 bs[n - 1] (MO.lst ((rD r).set 0 (.int 7)))) a9 = some (.lst (bs.map .ref)) := by rw [updO_ne (nb _ hbm).2.2]; exact h9'
        generalize updO O11 bs[n - 1] (MO.lst ((rD r).set 0 (.int 7))) = O12 at *
        subst hU1
        refine seq_step fun U1 hU1 => ?_
        walk_at "dx"
        simp only [h9'']
        refine ⟨small_line (by decide), by rw [List.length_map]; have := small_line (n := 100000) (Nat.le_refl _); omega, ?_⟩
        have hv13 : (updO O12 a9 (MO.lst (bs.map .ref ++ [.lst []]))) v = some m6 := by rw [updO_ne n9v.symm]; exact hv12
        generalize updO O12 a9 (MO.lst (bs.map .ref ++ [.lst []])) = O13 at *
        subst hU1
        refine seq_step fun U1 hU1 => ?_
        walk_at "dx"
        simp only [g_law_is_same_p3, mx_law_is_same_p3]
        refine same (hActs _) (hRows _) hml hG ?_
        simp only [Bool.not_true]
        -- again
        subst hU1
        refine seq_step fun U1 hU1 => ?_
        walk_at "dx"
        simp only [fTuple_eq (items_lst), g_law_draw_p2, mx_law_draw_p2, g_law_made_p3, mx_law_made_p3, g_law_copied_p2, mx_law_copied_p2]
        refine ⟨rs, t + 31, m6, rfl, by omega, fun r hr => by have := (hrs r hr).1; omega, hv13, hm6.mono (by omega), by omega, fun cp m7 hcp hm7 => ?_⟩
        refine ⟨t + 33, m7, updO_same, hm7.mono (by omega), by omega, by decide, by decide, fun d4 m8 a7 b7 hm8 => ?_⟩
        dsimp only
        rw [fEq_ii, updO_upd]
        have hTup : ∀ O, IsActs O (.tup (ms.map oD)) ms := fun O => ⟨plain_row (plain_tup (by omega) fun e he => by
          obtain ⟨x, _, rfl⟩ := List.mem_map.mp he
          cases x <;> rfl) O, rfl⟩
        refine good (hTup _) (hcp _) hgm hml hG ?_
        have hv14 : (updO O13 v m8) v = some m8 := updO_same
        have hm8 : VesM (t + 40) m8 := hm8.mono (by omega)
        generalize updO O13 v m8 = O14 at *
        subst hU1
        refine seq_step fun U1 hU1 => ?_
        walk_at "dx"
        simp only [g_law_is_same_p3, mx_law_is_same_p3, g_Notebook___eq___p2, mx_Notebook___eq___p2]
        refine same (hActs _) (hRows _) hml hG ?_
        simp only [Bool.not_true]
        have nfs : ∀ (O : DH) ms' rs' w', NotFst K O (He.ga K "Notebook") (nbD K ms' rs' w') := fun O ms' rs' w' => ⟨.ref (He.ga K "Notebook"), rfl, T.i_Notebook, notFirst_self K _⟩
        refine ⟨⟨_, rfl⟩, nfs _ _ _ _, ms, rs, _, rfl, .inl ⟨ms, rs, _, rfl, ?_⟩⟩
        have tt : (decide (ms = ms) && decide (rs = rs)) = true := by simp
        refine ⟨_, rfl, ?_⟩
        simp only [tt, Bool.false_eq_true, if_false, Bool.not_true]
        refine ⟨⟨_, rfl⟩, nfs _ _ _ _, ms, rs, _, rfl, .inl ⟨ms, rs, _, rfl, ?_⟩⟩
        refine ⟨_, rfl, ?_⟩
        simp only [tt, if_true, Bool.not_true]
        refine ⟨T.a_Notebook_moves, T.a_Notebook_turns, small_line (by decide), ⟨_, rfl⟩, ⟨.type "tuple", rfl, trivial, (T.p_Notebook (by decide)).2⟩, ms, rs, _, rfl, .inr ⟨_, rfl, ?_⟩⟩
        refine ⟨_, rfl, ?_⟩
        simp only [Bool.false_eq_true, if_false]
        -- another one
        subst hU1
        refine seq_step fun U1 hU1 => ?_
        walk_at "dx"
        simp only [g_law_draw_p2, mx_law_draw_p2]
        refine ⟨t + 40, m8, hv14, hm8, by omega, by omega, by omega, fun pl m9 a9' b9 hm9 => ?_⟩
        refine ⟨t + 41, m9, updO_same, hm9.mono (by omega), by omega, by omega, by omega, fun ix m10 a10 b10 hm10 => ?_⟩
        obtain ⟨p, rfl⟩ := Int.eq_ofNat_of_zero_le a9'
        obtain ⟨j, rfl⟩ := Int.eq_ofNat_of_zero_le a10
        have hp : p < n := by omega
        have hj : j < w := by omega
        rw [updO_upd]
        have hv15 : (updO O14 v m10) v = some m10 := updO_same
        have hm10 : VesM (t + 43) m10 := hm10.mono (by omega)
        generalize updO O14 v m10 = O15 at *
        obtain ⟨xp, hxp, hxa⟩ := atm p hp
        subst hU1
        refine seq_step fun U1 hU1 => ?_
        walk_at "dx"
        simp only [items_lst]
        intro b8 hb8
        have nvb8 : v ≠ b8 := ne_free hv15 hb8
        have hv16 : (updO O15 b8 (.lst (ms.map oD))) v = some m10 := by rw [updO_ne nvb8]; exact hv15
        have h16 : (updO O15 b8 (.lst (ms.map oD))) b8 = some (.lst (ms.map oD)) := updO_same
        generalize updO O15 b8 (.lst (ms.map oD)) = O16 at *
        subst hU1
        refine seq_step fun U1 hU1 => ?_
        walk_at "dx"
        rw [fIx_eq (items_lst) hxa, isN_oD]
        have ip : ixN (ms.map oD).length (p : Int) = some p := ixN_nat (by omega)
        simp only [h16, ip]
        have setm : ∀ y : Option Int, (ms.map oD).set p (oD y) = (ms.set p y).map oD := fun y => (List.map_set ..).symm
        have next2 : ∀ y : Option Int, y ≠ xp → (∀ i, y = some i → 0 ≤ i ∧ i < (w : Int)) → U1 { nx := N, rt := Q, bk := fun ρ' O' => U (ends Q E) ρ' O', ct := N, ex := fun c f x O => ∃ O2, Dx.Sub O2 O ∧ E c f O2 }
            [some (D.wl (List.map D.int ns)), some (D.ref v), some d, some (D.int ↑n), some (D.int ↑w), some (D.lst (List.map D.int is)), some (D.lst (List.map oD ms)), some (D.lst (List.map (fun r => D.lst (rD r)) rs)), some (D.ref b8), some (D.ref a9), some (nbD K ms rs ↑(wid rs)), some (nbD K ms rs ↑(wid rs)), some (.int p), some (.int j), y14, y15, y16, y17, y18]
            (updO O16 b8 (MO.lst ((ms.set p y).map oD))) := by
          intro y hy hyg
          have hv17 : (updO O16 b8 (MO.lst ((ms.set p y).map oD))) v = some m10 := by rw [updO_ne nvb8]; exact hv16
          have h17 : (updO O16 b8 (MO.lst ((ms.set p y).map oD))) b8 = some (.lst ((ms.set p y).map oD)) := updO_same
          generalize updO O16 b8 (MO.lst ((ms.set p y).map oD)) = O17 at *
          have gl' : (ms.set p y).length = n := by rw [List.length_set]; exact hml
          have gm' : GoodM (ms.set p y) w := fun i hi => by
            rcases List.mem_or_eq_of_mem_set hi with hi | hi
            · exact hgm i hi
            · exact hyg i hi.symm
          have ne' : ms.set p y ≠ ms := fun e => by
            have := congrArg (fun l => l[p]?) e
            simp only [List.getElem?_set, hxp] at this
            have hp' : p < ms.length := by omega
            simp [hp'] at this
            exact hy this
          subst hU1
          refine seq_step fun U1 hU1 => ?_
          walk_at "dx"
          simp only [g_law_made_p3, mx_law_made_p3]
          refine good (isActs_ref h17 (by omega)) (hRows _) gm' gl' hG ?_
          subst hU1
          refine seq_step fun U1 hU1 => ?_
          walk_at "dx"
          simp only [g_law_is_same_p3, mx_law_is_same_p3, g_Notebook___eq___p2, mx_Notebook___eq___p2]
          refine same (isActs_ref h17 (by omega)) (hRows _) gl' hG ?_
          have ff : (decide (ms.set p y = ms) && decide (rs = rs)) = false := by rw [decide_eq_false ne', Bool.false_and]
          simp only [Bool.not_true]
          refine ⟨⟨_, rfl⟩, nfs _ _ _ _, ms.set p y, rs, _, rfl, .inl ⟨ms, rs, _, rfl, ?_⟩⟩
          refine ⟨_, rfl, ?_⟩
          rw [ff]
          simp only [Bool.false_eq_true, if_false]
          refine ⟨⟨_, rfl⟩, nfs _ _ _ _, ms.set p y, rs, _, rfl, .inl ⟨ms, rs, _, rfl, ?_⟩⟩
          refine ⟨_, rfl, ?_⟩
          rw [ff]
          simp only [if_true, Bool.not_false, Bool.not_true]
          subst hU1
          refine seq_step fun U1 hU1 => ?_
          have rest : ∀ (z9 z14 : Option D) (O18 : DH) (m : MO), O18 v = some m → VesM (t + 43) m → U1 { nx := N, rt := Q, bk := fun ρ' O' => U (ends Q E) ρ' O', ct := N, ex := fun c f x O => ∃ O2, Dx.Sub O2 O ∧ E c f O2 }
              [some (D.wl (List.map D.int ns)), some (D.ref v), some d, some (D.int ↑n), some (D.int ↑w), some (D.lst (List.map D.int is)), some (D.lst (List.map oD ms)), some (D.lst (List.map (fun r => D.lst (rD r)) rs)), some (D.ref b8), z9, some (nbD K ms rs ↑(wid rs)), some (nbD K ms rs ↑(wid rs)), some (.int p), some (.int j), z14, y15, y16, y17, y18] O18 := by
            intro z9 z14 O18 m hv18 hm18
            have done : ∀ (z8 z9 : Option D) (O19 : DH) (m : MO), O19 v = some m → VesM (t + 1000) m → N [some (D.wl (List.map D.int ns)), some (D.ref v), some d, some (D.int ↑n), some (D.int ↑w), some (D.lst (List.map D.int is)), some (D.lst (List.map oD ms)), some (D.lst (List.map (fun r => D.lst (rD r)) rs)), z8, z9, some (nbD K ms rs ↑(wid rs)), some (nbD K ms rs ↑(wid rs)), some (.int p), some (.int j), z14, y15, y16, y17, y18] O19 := fun z8 z9 O19 m h1 h2 =>
              nx _ _ ⟨⟨_, _, _, _, _, _, _, _, _, _, _, _, _, _, _, _, _, rfl⟩, m, h1, h2.mono (by omega)⟩
            subst hU1
            refine seq_step fun U1 hU1 => ?_
            walk_at "dx"
            simp only [g_law_made_p3, mx_law_made_p3, g_law_bad_moves_p2, mx_law_bad_moves_p2, g_law_pick_p2, mx_law_pick_p2, g_law_draw_p2, mx_law_draw_p2]
            refine ⟨ms, t + 43, m, rfl, by omega, by omega, hv18, hm18, by omega, fun bm m11 hbm hm11 => ?_⟩
            refine ⟨small_line (by decide), small_line (by decide), t + 46, m11, updO_same, hm11.mono (by omega), by omega, Nat.succ_pos _, (by decide : 3 < 1000000), fun x m12 hx hm12 => ?_⟩
            refine ⟨t + 47, m12, updO_same, hm12.mono (by omega), by omega, by decide, by decide, fun d5 m13 a13 b13 hm13 => ?_⟩
            dsimp only
            rw [fEq_ii, updO_upd, updO_upd]
            have hxr : ∀ O, Rows O x := fun O => by
              simp only [List.mem_cons, List.not_mem_nil, or_false] at hx
              rcases hx with rfl | rfl | rfl
              · exact (hRows O).1
              · exact rows_plain rfl (fun _ => rfl) O
              · exact rows_lst (by decide) fun e he => by cases he
            refine ⟨hbm.1 _, hxr _, ?_⟩
            rw [hbm.2]
            refine ⟨small_line (by decide), fNe_word (by decide +kernel) ?_⟩
            have hv19 : (updO O18 v m13) v = some m13 := updO_same
            have hm13 : VesM (t + 50) m13 := hm13.mono (by omega)
            dsimp only
            generalize updO O18 v m13 = O19 at *
            subst hU1
            refine seq_step fun U1 hU1 => ?_
            walk_at "dx"
            simp only [g_law_made_p3, mx_law_made_p3, g_law_bad_turns_p2, mx_law_bad_turns_p2, g_law_draw_p2, mx_law_draw_p2]
            refine ⟨rs, n, w, t + 50, m13, rfl, hG, n1, n4, w2, w4, hv19, hm13, by omega, fun bt O20 m14 s20 hbt hm14 => ?_⟩
            have hv20 : O20 v = some m14 := s20 v m14 updO_same
            refine ⟨t + 56, m14, hv20, hm14.mono (by omega), by omega, by decide, by decide, fun d6 m15 a15 b15 hm15 => ?_⟩
            dsimp only
            rw [fEq_ii]
            obtain ⟨bt1, bt2⟩ := hbt (updO O20 v m15) fun c hc => updO_ne hc
            have hm3 : ∀ i, some i ∈ ms → 0 ≤ i ∧ i ≤ 3 := fun i hi => by have := hgm i hi; omega
            refine ⟨(hActs _).1, bt1, ?_⟩
            rw [nbChk_noturn (hActs _).2 hm3 (by omega) (by omega) (by rw [hml, bt2, Bool.false_and])]
            refine ⟨small_line (by decide), fNe_word (by decide +kernel) ?_⟩
            have hv21 : (updO O20 v m15) v = some m15 := updO_same
            have hm15 : VesM (t + 60) m15 := hm15.mono (by omega)
            dsimp only
            generalize updO O20 v m15 = O21 at *
            subst hU1
            walk_at "dx"
            simp only [fLt, fI0]
            cases hw4 : decide ((w : Int) < 4) with
            | false => exact done _ _ O21 m15 hv21 (hm15.mono (by omega))
            | true =>
              have hw4 := of_decide_eq_true hw4
              simp only [items_lst]
              intro c8 hc8
              have nvc8 : v ≠ c8 := ne_free hv21 hc8
              have hv22 : (updO O21 c8 (.lst (ms.map oD))) v = some m15 := by rw [updO_ne nvc8]; exact hv21
              have h22 : (updO O21 c8 (.lst (ms.map oD))) c8 = some (.lst (ms.map oD)) := updO_same
              generalize updO O21 c8 (.lst (ms.map oD)) = O22 at *
              simp only [fSub, fI0, g_law_draw_p2, mx_law_draw_p2]
              refine ⟨t + 60, m15, hv22, hm15, by omega, by omega, by omega, fun d7 m16 a16 b16 hm16 => ?_⟩
              simp only [fAdd]
              have h23 : (updO O22 v m16) c8 = some (.lst (ms.map oD)) := by rw [updO_ne nvc8.symm]; exact h22
              have hv23 : (updO O22 v m16) v = some m16 := updO_same
              generalize updO O22 v m16 = O23 at *
              simp only [h23, ip]
              have es : (ms.map oD).set p (D.int (w + d7)) = (ms.set p (some (w + d7))).map oD := setm (some (w + d7))
              rw [es]
              have hv24 : (updO O23 c8 (MO.lst ((ms.set p (some (w + d7))).map oD))) v = some m16 := by rw [updO_ne nvc8]; exact hv23
              have h24 : (updO O23 c8 (MO.lst ((ms.set p (some (w + d7))).map oD))) c8 = some (.lst ((ms.set p (some (w + d7))).map oD)) := updO_same
              generalize updO O23 c8 (MO.lst ((ms.set p (some (w + d7))).map oD)) = O24 at *
              simp only [g_law_made_p3, mx_law_made_p3, g_law_copied_p2, mx_law_copied_p2]
              refine ⟨rs, t + 61, m16, rfl, by omega, fun r hr => by have := (hrs r hr).1; omega, hv24, hm16.mono (by omega), by omega, fun cp m17 hcp hm17 => ?_⟩
              have h25 : (updO O24 v m17) c8 = some (.lst ((ms.set p (some (w + d7))).map oD)) := by rw [updO_ne nvc8.symm]; exact h24
              have gl2 : (ms.set p (some ((w : Int) + d7))).length = n := by rw [List.length_set]; exact hml
              have hact := isActs_ref h25 (by omega)
              obtain ⟨q1, q2, q3⟩ := isRows_turns (hcp (updO O24 v m17)) hG n1 w2 w4
              refine ⟨hact.1, (hcp _).1, ?_⟩
              have hmem : oD (some ((w : Int) + d7)) ∈ (ms.set p (some ((w : Int) + d7))).map oD := List.mem_map_of_mem (List.mem_set (by omega) _)
              rw [nbChk_noturn hact.2 (fun i hi => by
                rcases List.mem_or_eq_of_mem_set hi with hi | hi
                · exact hm3 i hi
                · cases hi; omega) (by omega) (by omega) (by
                rw [q2, all_false hmem (show moveIn w (.int ((w : Int) + d7)) = false from decide_eq_false (p := (w : Int) + d7 < w) (by omega)), Bool.and_false])]
              refine ⟨small_line (by decide), fNe_word (by decide +kernel) ?_⟩
              exact done _ _ _ m17 updO_same (hm17.mono (by omega))
          walk_at "dx"
          simp only [fGt, fI0]
          cases hn2 : decide ((1 : Int) < n) with
          | false => exact rest _ _ O17 m10 hv17 hm10
          | true =>
            have hn2 := of_decide_eq_true hn2
            dsimp only
            rw [show items O17 (D.lst (List.map (fun r => D.lst (rD r)) rs)) = some (rs.map fun r => D.lst (rD r)) from rfl]
            intro a18 ha18
            refine lc_copies (es := its noO) (show 18 < 19 by decide) (by rw [hmss]; exact small_line (by omega)) ha18 (fun _ _ => trivial) (fun e he => by obtain ⟨r, _, rfl⟩ := hr9 e he; exact ⟨rfl, rfl⟩) fun bs2 O25 hbl2 s25 h25 hat2 hfr2 hnd2 => ?_
            have hat2 : ∀ (k : Nat) (b : Addr), bs2[k]? = some b → ∃ r, rs[k]? = some r ∧ O25 b = some (.lst (rD r)) := fun k b hk => by
              obtain ⟨d', h1, h2⟩ := hat2 k b hk
              rw [List.getElem?_map] at h1
              cases hr : rs[k]? with
              | none => rw [hr] at h1; cases h1
              | some r => rw [hr] at h1; cases h1; exact ⟨r, rfl, h2⟩
            have hbl2 : bs2.length = rs.length := by rw [hbl2, List.length_map]
            have hv25 : O25 v = some m10 := s25 v m10 hv17
            have hpb : p < bs2.length := by omega
            obtain ⟨rp, hrp, hOp⟩ := hat2 p bs2[p] (List.getElem?_eq_getElem hpb)
            have hrpm := List.mem_of_getElem? hrp
            have hrpl : rp.length = w := (hrs rp hrpm).1
            have hjr : j < rp.length := by omega
            have e1 : atI (rs.map fun r => D.lst (rD r)) (p : Int) = some (.lst (rD rp)) := atI_nat (by rw [List.getElem?_map, hrp]; rfl)
            have e2 : atI (rD rp) (j : Int) = some (.int rp[j]) := atI_nat (by rw [List.getElem?_map, List.getElem?_eq_getElem hjr]; rfl)
            have e3 : atI (bs2.map D.ref) (p : Int) = some (.ref bs2[p]) := atI_nat (by rw [List.getElem?_map, List.getElem?_eq_getElem hpb]; rfl)
            rw [fIx_eq (items_lst) e1, fIx_eq (items_lst) e2]
            have hx := (hrs rp hrpm).2 rp[j] (List.getElem_mem hjr)
            simp only [fAdd, fInt, fMod]
            refine ⟨by omega, ?_⟩
            dsimp only
            rw [fIx_eq (items_ref h25) e3]
            have ij : ixN (rD rp).length (j : Int) = some j := ixN_nat (by rw [List.length_map]; exact hjr)
            simp only [hOp, ij]
            have hz0 := fm_lt (i := rp[j] + 1) (j := (n : Int)) (by omega)
            have hzne : (rp[j] + 1).fmod (n : Int) ≠ rp[j] := by
              by_cases hlt : rp[j] + 1 < (n : Int)
              · rw [Int.fmod_eq_emod_of_nonneg _ (by omega), Int.emod_eq_of_lt (by omega) hlt]
                omega
              · rw [show rp[j] + 1 = (n : Int) by omega, Int.fmod_self]
                omega
            generalize (rp[j] + 1).fmod (n : Int) = z at *
            have es : (rD rp).set j (D.int z) = rD (rp.set j z) := (List.map_set ..).symm
            rw [es]
            have hbv : bs2[p] ≠ v := fun e => by
              have := (hfr2 bs2[p] (List.getElem_mem hpb)).1
              rw [e, hv17] at this
              cases this
            have hba : a18 ≠ bs2[p] := fun e => (hfr2 bs2[p] (List.getElem_mem hpb)).2 e.symm
            have hv26 : (updO O25 bs2[p] (MO.lst (rD (rp.set j z)))) v = some m10 := by rw [updO_ne hbv.symm]; exact hv25
            have h26 : (updO O25 bs2[p] (MO.lst (rD (rp.set j z)))) a18 = some (.lst (bs2.map .ref)) := by rw [updO_ne hba]; exact h25
            have hat26 : ∀ (k : Nat) (b : Addr), bs2[k]? = some b → ∃ r, (rs.set p (rp.set j z))[k]? = some r ∧ (updO O25 bs2[p] (MO.lst (rD (rp.set j z)))) b = some (.lst (rD r)) := fun k b hk => by
              by_cases hkp : k = p
              · subst hkp
                rw [List.getElem?_eq_getElem hpb] at hk
                cases hk
                exact ⟨rp.set j z, by rw [List.getElem?_set]; simp [show k < rs.length by omega], updO_same⟩
              · obtain ⟨r, h1, h2⟩ := hat2 k b hk
                refine ⟨r, by rw [List.getElem?_set_ne (fun e => hkp e.symm)]; exact h1, ?_⟩
                have hbb : b ≠ bs2[p] := fun e => by
                  obtain ⟨hkl, hkb⟩ := List.getElem?_eq_some_iff.mp hk
                  have pw := List.pairwise_iff_getElem.mp hnd2
                  rcases Nat.lt_or_gt_of_ne hkp with hlt | hgt
                  · exact pw k p hkl hpb hlt (hkb.trans e)
                  · exact pw p k hpb hkl hgt (hkb.trans e).symm
                rw [updO_ne hbb]
                exact h2
            generalize updO O25 bs2[p] (MO.lst (rD (rp.set j z))) = O26 at *
            have hG2 : GoodR (rs.set p (rp.set j z)) n w := by
              refine ⟨by rw [List.length_set]; exact hl5, fun r hr => ?_⟩
              rcases List.mem_or_eq_of_mem_set hr with hr | rfl
              · exact hrs r hr
              · refine ⟨by rw [List.length_set]; exact hrpl, fun x hx => ?_⟩
                rcases List.mem_or_eq_of_mem_set hx with hx | rfl
                · exact (hrs rp hrpm).2 x hx
                · exact hz0
            have hR2 : IsRows O26 (.ref a18) (rs.set p (rp.set j z)) := isRows_ref h26 (by rw [List.length_set]; exact hbl2) (by rw [List.length_set]; omega) (fun r hr => by have := (hG2.2 r hr).1; omega) hat26
            have hrne : rs.set p (rp.set j z) ≠ rs := fun e => by
              have h1 := congrArg (fun l => l[p]?) e
              simp only [List.getElem?_set, hrp] at h1
              simp [show p < rs.length by omega] at h1
              have h2 := congrArg (fun l => l[j]?) h1
              simp only [List.getElem?_set] at h2
              simp [hjr] at h2
              exact hzne h2
            have ff2 : (decide (ms = ms) && decide (rs.set p (rp.set j z) = rs)) = false := by rw [decide_eq_false hrne, Bool.and_false]
            simp only [g_law_made_p3, mx_law_made_p3, g_law_is_same_p3, mx_law_is_same_p3, g_Notebook___eq___p2, mx_Notebook___eq___p2]
            refine good (hActs _) hR2 hgm hml hG2 ?_
            refine same (hActs _) hR2 hml hG2 ?_
            simp only [Bool.not_true]
            refine ⟨⟨_, rfl⟩, nfs _ _ _ _, ms, rs.set p (rp.set j z), _, rfl, .inl ⟨ms, rs, _, rfl, ?_⟩⟩
            refine ⟨_, rfl, ?_⟩
            rw [ff2]
            simp only [Bool.false_eq_true, if_false]
            refine ⟨⟨_, rfl⟩, nfs _ _ _ _, ms, rs.set p (rp.set j z), _, rfl, .inl ⟨ms, rs, _, rfl, ?_⟩⟩
            refine ⟨_, rfl, ?_⟩
            rw [ff2]
            simp only [if_true, Bool.not_false, Bool.not_true]
            exact rest _ _ O26 m10 hv26 hm10
        cases xp with
        | none => exact (setm (some j) ▸ next2 (some j) (by simp) (fun i hi => by cases hi; omega))
        | some i => exact (setm none ▸ next2 none (by simp) (fun i hi => by cases hi))
      cases x0 with
      | none => exact next _
      | some i => exact next _
    · obtain ⟨⟨y2, y3, y4, y5, y6, y7, y8, y9, y10, y11, y12, y13, y14, y15, y16, y17, y18, rfl⟩, m, hv, hm⟩ := j
      subst hU
      walk_at "dx"
      exact ⟨O, Sub.refl O, q O⟩
  · exact h.elim
end Lw
namespace Lw
open PySem L2 Dx
def h_BadNotebook___init__ : He.DefD := ⟨("BadNotebook", some "__init__"), "__init__", "BadNotebook.__init__", defArgs s_BadNotebook___init__, defBody s_BadNotebook___init__, defScope s_BadNotebook___init__, [], []⟩
def h_is_integer : He.DefD := ⟨("is_integer", none), "is_integer", "is_integer", defArgs s_is_integer, defBody s_is_integer, defScope s_is_integer, [], []⟩
def h_is_list : He.DefD := ⟨("is_list", none), "is_list", "is_list", defArgs s_is_list, defBody s_is_list, defScope s_is_list, [], []⟩
def h_Notebook___eq__ : He.DefD := ⟨("Notebook", some "__eq__"), "__eq__", "Notebook.__eq__", defArgs s_Notebook___eq__, defBody s_Notebook___eq__, defScope s_Notebook___eq__, [], []⟩
def h_law_store : He.DefD := ⟨("_law_store", none), "_law_store", "_law_store", defArgs s_law_store, defBody s_law_store, defScope s_law_store, [], []⟩
def h_law_draw : He.DefD := ⟨("_law_draw", none), "_law_draw", "_law_draw", defArgs s_law_draw, defBody s_law_draw, defScope s_law_draw, [], []⟩
def h_law_is_same : He.DefD := ⟨("_law_is_same", none), "_law_is_same", "_law_is_same", defArgs s_law_is_same, defBody s_law_is_same, defScope s_law_is_same, [], []⟩
def h_is_within : He.DefD := ⟨("is_within", none), "is_within", "is_within", defArgs s_is_within, defBody s_is_within, defScope s_is_within, [], []⟩
def h_law_pick : He.DefD := ⟨("_law_pick", none), "_law_pick", "_law_pick", defArgs s_law_pick, defBody s_law_pick, defScope s_law_pick, [], []⟩
def h_law_copied : He.DefD := ⟨("_law_copied", none), "_law_copied", "_law_copied", defArgs s_law_copied, defBody s_law_copied, defScope s_law_copied, [], []⟩
def h_are_turns : He.DefD := ⟨("are_turns", none), "are_turns", "are_turns", defArgs s_are_turns, defBody s_are_turns, defScope s_are_turns, [], []⟩
def h_law_bad_moves : He.DefD := ⟨("_law_bad_moves", none), "_law_bad_moves", "_law_bad_moves", defArgs s_law_bad_moves, defBody s_law_bad_moves, defScope s_law_bad_moves, [], []⟩
def h_law_bad_turns : He.DefD := ⟨("_law_bad_turns", none), "_law_bad_turns", "_law_bad_turns", defArgs s_law_bad_turns, defBody s_law_bad_turns, defScope s_law_bad_turns, [], []⟩
def h_Notebook___init__ : He.DefD := ⟨("Notebook", some "__init__"), "__init__", "Notebook.__init__", defArgs s_Notebook___init__, defBody s_Notebook___init__, defScope s_Notebook___init__, [], []⟩
def h_law_made : He.DefD := ⟨("_law_made", none), "_law_made", "_law_made", defArgs s_law_made, defBody s_law_made, defScope s_law_made, [], []⟩
def h_law : He.DefD := ⟨("law", none), "law", "law", defArgs s_law, defBody s_law, defScope s_law, [], []⟩
def fn : List He.DefD := [h_BadNotebook___init__, h_is_integer, h_is_list, h_Notebook___eq__, h_law_store, h_law_draw, h_law_is_same, h_is_within, h_law_pick, h_law_copied, h_are_turns, h_law_bad_moves, h_law_bad_turns, h_Notebook___init__, h_law_made, h_law]
def q_z_abs (K : PySem.W.Frag) : Bool := (He.Fa.free "abs").ok K
def q_z_all (K : PySem.W.Frag) : Bool := (He.Fa.free "all").ok K
def q_z_any (K : PySem.W.Frag) : Bool := (He.Fa.free "any").ok K
def q_z_bool (K : PySem.W.Frag) : Bool := (He.Fa.free "bool").ok K
def q_z_int (K : PySem.W.Frag) : Bool := (He.Fa.free "int").ok K
def q_z_isinstance (K : PySem.W.Frag) : Bool := (He.Fa.free "isinstance").ok K
def q_z_len (K : PySem.W.Frag) : Bool := (He.Fa.free "len").ok K
def q_z_list (K : PySem.W.Frag) : Bool := (He.Fa.free "list").ok K
def q_z_range (K : PySem.W.Frag) : Bool := (He.Fa.free "range").ok K
def q_z_tuple (K : PySem.W.Frag) : Bool := (He.Fa.free "tuple").ok K
def q_c_MOST_LETTERS (K : PySem.W.Frag) : Bool := (He.Fa.int "MOST_LETTERS" (4)).ok K
def q_c_MOST_PAGES (K : PySem.W.Frag) : Bool := (He.Fa.int "MOST_PAGES" (4)).ok K
def q_m_TalkError (K : PySem.W.Frag) : Bool := (He.Fa.glo "TalkError").ok K
def q_m_BadNotebook (K : PySem.W.Frag) : Bool := (He.Fa.glo "BadNotebook").ok K
def q_m_Notebook (K : PySem.W.Frag) : Bool := (He.Fa.glo "Notebook").ok K
def q_b_TalkError (K : PySem.W.Frag) : Bool := baseB K (He.ga K "TalkError")
def q_oe_BadNotebook (K : PySem.W.Frag) : Bool := oexB K (He.ga K "BadNotebook")
def q_na_BadNotebook_part (K : PySem.W.Frag) : Bool := noAtB K (He.ga K "BadNotebook") "part"
def q_xf_BadNotebook (K : PySem.W.Frag) : Bool := xfB K (He.ga K "BadNotebook")
def q_ex_BadNotebook_BadNotebook (K : PySem.W.Frag) : Bool := exmB K (He.ga K "BadNotebook") (.ref (He.ga K "BadNotebook")) true
def q_i_Notebook (K : PySem.W.Frag) : Bool := clsB K (He.ga K "Notebook")
def q_p_Notebook (K : PySem.W.Frag) : Bool := plainB K (He.ga K "Notebook")
def q_a_Notebook_moves (K : PySem.W.Frag) : Bool := clsB K (He.ga K "Notebook") && noAtB K (He.ga K "Notebook") "moves"
def q_a_Notebook_turns (K : PySem.W.Frag) : Bool := clsB K (He.ga K "Notebook") && noAtB K (He.ga K "Notebook") "turns"
def q_a_Notebook_letters (K : PySem.W.Frag) : Bool := clsB K (He.ga K "Notebook") && noAtB K (He.ga K "Notebook") "letters"
def q_ne_Notebook (K : PySem.W.Frag) : Bool := neB K (He.ga K "Notebook")
def q_k_Notebook_Notebook (K : PySem.W.Frag) : Bool := kitB2 K (He.ga K "Notebook") (He.ga K "Notebook") true
def q_g_is_integer (K : PySem.W.Frag) : Bool := (He.Fa.glo "is_integer").ok K
def q_g_is_list (K : PySem.W.Frag) : Bool := (He.Fa.glo "is_list").ok K
def q_g_Notebook___eq__ (K : PySem.W.Frag) : Bool := fnAtB K (He.ga K "Notebook") (He.fAd K ("Notebook", some "__eq__")) "__eq__"
def q_g_law_store (K : PySem.W.Frag) : Bool := (He.Fa.glo "_law_store").ok K
def q_g_law_draw (K : PySem.W.Frag) : Bool := (He.Fa.glo "_law_draw").ok K
def q_g_law_is_same (K : PySem.W.Frag) : Bool := (He.Fa.glo "_law_is_same").ok K
def q_g_is_within (K : PySem.W.Frag) : Bool := (He.Fa.glo "is_within").ok K
def q_g_law_pick (K : PySem.W.Frag) : Bool := (He.Fa.glo "_law_pick").ok K
def q_g_law_copied (K : PySem.W.Frag) : Bool := (He.Fa.glo "_law_copied").ok K
def q_g_are_turns (K : PySem.W.Frag) : Bool := (He.Fa.glo "are_turns").ok K
def q_g_law_bad_moves (K : PySem.W.Frag) : Bool := (He.Fa.glo "_law_bad_moves").ok K
def q_g_law_bad_turns (K : PySem.W.Frag) : Bool := (He.Fa.glo "_law_bad_turns").ok K
def q_g_Notebook___init__ (K : PySem.W.Frag) : Bool := mkB K (He.ga K "Notebook") (He.fAd K ("Notebook", some "__init__"))
def q_g_law_made (K : PySem.W.Frag) : Bool := (He.Fa.glo "_law_made").ok K
def q_g_law (K : PySem.W.Frag) : Bool := (He.Fa.glo "law").ok K
def q_g_BadNotebook___init__ (K : PySem.W.Frag) : Bool := fnAtB K (He.ga K "BadNotebook") (He.fAd K ("BadNotebook", some "__init__")) "__init__"
def ck : ChkL := [q_z_abs, q_z_all, q_z_any, q_z_bool, q_z_int, q_z_isinstance, q_z_len, q_z_list, q_z_range, q_z_tuple, q_c_MOST_LETTERS, q_c_MOST_PAGES, q_m_TalkError, q_m_BadNotebook, q_m_Notebook, q_b_TalkError, q_oe_BadNotebook, q_na_BadNotebook_part, q_xf_BadNotebook, q_ex_BadNotebook_BadNotebook, q_i_Notebook, q_p_Notebook, q_a_Notebook_moves, q_a_Notebook_turns, q_a_Notebook_letters, q_ne_Notebook, q_k_Notebook_Notebook, q_g_is_integer, q_g_is_list, q_g_Notebook___eq__, q_g_law_store, q_g_law_draw, q_g_law_is_same, q_g_is_within, q_g_law_pick, q_g_law_copied, q_g_are_turns, q_g_law_bad_moves, q_g_law_bad_turns, q_g_Notebook___init__, q_g_law_made, q_g_law, q_g_BadNotebook___init__]
def loose0 : List Str := ["TalkError", "BadNotebook", "is_integer", "is_within", "is_list", "MOST_PAGES", "MOST_LETTERS", "Notebook", "are_turns", "_law_store", "_law_draw", "_law_pick", "_law_made", "_law_bad_moves", "_law_bad_turns", "_law_is_same", "_law_copied"]
def loose : List Str := loose0
abbrev R : PySem.W.OpenRow := PySem.W.OpenLaw.row PySem.Challenge.rw_everyprompt_k87_notebooks_kept_and_refus
abbrev hk : PySem.W.Hook := hookX 5 ck fn
def ob (s : PySem.W.SharedT) : He.AlD := obsXG 5 ck fn (HandSHeadRun.getT s)
theorem ob_eq (s : PySem.W.SharedT) : ob s = hk.obs s.abs := obsXG_eq (HandSHeadRun.getT_eq s)
theorem run (w : World) : HandSHeadRun.RunEq R (PySem.W.view R.prog [21]) hk ob 2420 loose w := by
  intro os
  kernel_rfl
theorem facts {w : World} {K : PySem.W.Frag} {h : Heap} {mg : Str → Option Value} {f : Addr} (X : K.In h) (G : h.Ns mainGlobals mg) (hfa : mg ("law" : Str) = some (.ref f)) (c : SaysX ck fn K) :
    ∃ fd : FuncData, (∀ (s : Shared) (v : Value), BindsTo s fd ⟨[v], []⟩ [("script", v)]) ∧ ∀ base : Heap, K.In base → base.Ns mainGlobals mg → FnG (PySem.Challenge.rw_everyprompt_k87_notebooks_kept_and_refus).prog w K mg base 7 f fd ["script"] sd_law := by
  obtain ⟨fd_BadNotebook___init__, F_BadNotebook___init__⟩ := c.def_ 0 (d := h_BadNotebook___init__) rfl
  obtain ⟨fd_is_integer, F_is_integer⟩ := c.def_ 1 (d := h_is_integer) rfl
  obtain ⟨fd_is_list, F_is_list⟩ := c.def_ 2 (d := h_is_list) rfl
  obtain ⟨fd_Notebook___eq__, F_Notebook___eq__⟩ := c.def_ 3 (d := h_Notebook___eq__) rfl
  obtain ⟨fd_law_store, F_law_store⟩ := c.def_ 4 (d := h_law_store) rfl
  obtain ⟨fd_law_draw, F_law_draw⟩ := c.def_ 5 (d := h_law_draw) rfl
  obtain ⟨fd_law_is_same, F_law_is_same⟩ := c.def_ 6 (d := h_law_is_same) rfl
  obtain ⟨fd_is_within, F_is_within⟩ := c.def_ 7 (d := h_is_within) rfl
  obtain ⟨fd_law_pick, F_law_pick⟩ := c.def_ 8 (d := h_law_pick) rfl
  obtain ⟨fd_law_copied, F_law_copied⟩ := c.def_ 9 (d := h_law_copied) rfl
  obtain ⟨fd_are_turns, F_are_turns⟩ := c.def_ 10 (d := h_are_turns) rfl
  obtain ⟨fd_law_bad_moves, F_law_bad_moves⟩ := c.def_ 11 (d := h_law_bad_moves) rfl
  obtain ⟨fd_law_bad_turns, F_law_bad_turns⟩ := c.def_ 12 (d := h_law_bad_turns) rfl
  obtain ⟨fd_Notebook___init__, F_Notebook___init__⟩ := c.def_ 13 (d := h_Notebook___init__) rfl
  obtain ⟨fd_law_made, F_law_made⟩ := c.def_ 14 (d := h_law_made) rfl
  obtain ⟨fd_law, F_law⟩ := c.def_ 15 (d := h_law) rfl
  have y_z_abs := He.free_ok X G (c.chk 0 (f := q_z_abs) rfl)
  have y_z_all := He.free_ok X G (c.chk 1 (f := q_z_all) rfl)
  have y_z_any := He.free_ok X G (c.chk 2 (f := q_z_any) rfl)
  have y_z_bool := He.free_ok X G (c.chk 3 (f := q_z_bool) rfl)
  have y_z_int := He.free_ok X G (c.chk 4 (f := q_z_int) rfl)
  have y_z_isinstance := He.free_ok X G (c.chk 5 (f := q_z_isinstance) rfl)
  have y_z_len := He.free_ok X G (c.chk 6 (f := q_z_len) rfl)
  have y_z_list := He.free_ok X G (c.chk 7 (f := q_z_list) rfl)
  have y_z_range := He.free_ok X G (c.chk 8 (f := q_z_range) rfl)
  have y_z_tuple := He.free_ok X G (c.chk 9 (f := q_z_tuple) rfl)
  have y_c_MOST_LETTERS := He.int_ok X G (c.chk 10 (f := q_c_MOST_LETTERS) rfl)
  have y_c_MOST_PAGES := He.int_ok X G (c.chk 11 (f := q_c_MOST_PAGES) rfl)
  have y_m_TalkError := He.glo_ok X G (c.chk 12 (f := q_m_TalkError) rfl)
  have y_m_BadNotebook := He.glo_ok X G (c.chk 13 (f := q_m_BadNotebook) rfl)
  have y_m_Notebook := He.glo_ok X G (c.chk 14 (f := q_m_Notebook) rfl)
  have y_b_TalkError := baseB_ok (c.chk 15 (f := q_b_TalkError) rfl)
  have y_oe_BadNotebook := oexB_ok (c.chk 16 (f := q_oe_BadNotebook) rfl)
  have y_na_BadNotebook_part := noAtB_ok (c.chk 17 (f := q_na_BadNotebook_part) rfl)
  have y_xf_BadNotebook := xfB_ok (c.chk 18 (f := q_xf_BadNotebook) rfl)
  have y_ex_BadNotebook_BadNotebook := (let z := c.chk 19 (f := q_ex_BadNotebook_BadNotebook) rfl; (of_decide_eq_true z : PySem.W.exmOne K (.ref (He.ga K "BadNotebook")) (.ref (He.ga K "BadNotebook")) = some true))
  have y_i_Notebook := clsB_ok (c.chk 20 (f := q_i_Notebook) rfl)
  have y_p_Notebook := (let z := c.chk 21 (f := q_p_Notebook) rfl; (fun hk => plainB_ok z hk : ∀ {k : String}, k ∈ kindsL → PySem.W.kitOne K (.type k) (.ref (He.ga K "Notebook")) = some false ∧ PySem.W.notFirst K (He.ga K "Notebook") (.type k) = true))
  have y_a_Notebook_moves := (let z := c.chk 22 (f := q_a_Notebook_moves) rfl; (fld_of (clsB_ok (band z).1) (band z).2 : FldOk K (He.ga K "Notebook") "moves"))
  have y_a_Notebook_turns := (let z := c.chk 23 (f := q_a_Notebook_turns) rfl; (fld_of (clsB_ok (band z).1) (band z).2 : FldOk K (He.ga K "Notebook") "turns"))
  have y_a_Notebook_letters := (let z := c.chk 24 (f := q_a_Notebook_letters) rfl; (fld_of (clsB_ok (band z).1) (band z).2 : FldOk K (He.ga K "Notebook") "letters"))
  have y_ne_Notebook := neB_ok (c.chk 25 (f := q_ne_Notebook) rfl)
  have y_k_Notebook_Notebook := (let z := c.chk 26 (f := q_k_Notebook_Notebook) rfl; (of_decide_eq_true z : PySem.W.kitOne K (.ref (He.ga K "Notebook")) (.ref (He.ga K "Notebook")) = some true))
  have y_g_is_integer := He.glo_ok X G (c.chk 27 (f := q_g_is_integer) rfl)
  have y_g_is_list := He.glo_ok X G (c.chk 28 (f := q_g_is_list) rfl)
  have y_g_Notebook___eq__ := fnAt_eq (c.chk 29 (f := q_g_Notebook___eq__) rfl)
  have y_g_law_store := He.glo_ok X G (c.chk 30 (f := q_g_law_store) rfl)
  have y_g_law_draw := He.glo_ok X G (c.chk 31 (f := q_g_law_draw) rfl)
  have y_g_law_is_same := He.glo_ok X G (c.chk 32 (f := q_g_law_is_same) rfl)
  have y_g_is_within := He.glo_ok X G (c.chk 33 (f := q_g_is_within) rfl)
  have y_g_law_pick := He.glo_ok X G (c.chk 34 (f := q_g_law_pick) rfl)
  have y_g_law_copied := He.glo_ok X G (c.chk 35 (f := q_g_law_copied) rfl)
  have y_g_are_turns := He.glo_ok X G (c.chk 36 (f := q_g_are_turns) rfl)
  have y_g_law_bad_moves := He.glo_ok X G (c.chk 37 (f := q_g_law_bad_moves) rfl)
  have y_g_law_bad_turns := He.glo_ok X G (c.chk 38 (f := q_g_law_bad_turns) rfl)
  have y_g_Notebook___init__ := mkB_ok (c.chk 39 (f := q_g_Notebook___init__) rfl)
  have y_g_law_made := He.glo_ok X G (c.chk 40 (f := q_g_law_made) rfl)
  have y_g_law := He.glo_ok X G (c.chk 41 (f := q_g_law) rfl)
  have y_g_BadNotebook___init__ := fnAtB_ok (c.chk 42 (f := q_g_BadNotebook___init__) rfl)
  have T : Facts K mg := ⟨y_z_abs, y_z_all, y_z_any, y_z_bool, y_z_int, y_z_isinstance, y_z_len, y_z_list, y_z_range, y_z_tuple, y_c_MOST_LETTERS, y_c_MOST_PAGES, y_m_TalkError, y_m_BadNotebook, y_m_Notebook, y_b_TalkError, y_oe_BadNotebook, y_na_BadNotebook_part, y_xf_BadNotebook, y_ex_BadNotebook_BadNotebook, y_i_Notebook, y_p_Notebook, y_a_Notebook_moves, y_a_Notebook_turns, y_a_Notebook_letters, y_ne_Notebook, y_k_Notebook_Notebook⟩
  have e := hfa.symm.trans y_g_law
  cases e
  have b := FunD.bindsA (ps := ["script"]) F_law fun _ _ _ _ _ _ us hl => match us, hl with | [_], _ => rfl
  refine ⟨fd_law, fun s v => b s [v] rfl, fun base _ _ => ?_⟩
  have e_BadNotebook : Err1 (PySem.Challenge.rw_everyprompt_k87_notebooks_kept_and_refus).prog w K mg base "BadNotebook" "part" := ⟨T.m_BadNotebook, T.oe_BadNotebook, T.na_BadNotebook_part, _, _, _, y_g_BadNotebook___init__.1, y_g_BadNotebook___init__.2.1, ok_BadNotebook___init__ T F_BadNotebook___init__, F_BadNotebook___init__.bindsN fun _ _ _ _ _ _ us hl => match us, hl with | [_, _], _ => rfl⟩
  have G_is_integer : FnG (PySem.Challenge.rw_everyprompt_k87_notebooks_kept_and_refus).prog w K mg base 1 _ fd_is_integer ["value"] sd_is_integer := FnG.of (P := (PySem.Challenge.rw_everyprompt_k87_notebooks_kept_and_refus).prog) (w := w) (base := base) F_is_integer S_is_integer (der_is_integer T) (fun ds O Q E h => by unfold sd_is_integer at h; split at h <;> first | rfl | exact h.elim) rd_is_integer
  have G_is_list : FnG (PySem.Challenge.rw_everyprompt_k87_notebooks_kept_and_refus).prog w K mg base 1 _ fd_is_list ["value"] sd_is_list := FnG.of (P := (PySem.Challenge.rw_everyprompt_k87_notebooks_kept_and_refus).prog) (w := w) (base := base) F_is_list S_is_list (der_is_list T) (fun ds O Q E h => by unfold sd_is_list at h; split at h <;> first | rfl | exact h.elim) rd_is_list
  have G_Notebook___eq__ : FnG (PySem.Challenge.rw_everyprompt_k87_notebooks_kept_and_refus).prog w K mg base 1 _ fd_Notebook___eq__ ["self", "other"] (sd_Notebook___eq__ K) := FnG.of (P := (PySem.Challenge.rw_everyprompt_k87_notebooks_kept_and_refus).prog) (w := w) (base := base) F_Notebook___eq__ S_Notebook___eq__ (der_Notebook___eq__ T) (fun ds O Q E h => by unfold sd_Notebook___eq__ at h; split at h <;> first | rfl | exact h.elim) (rd_Notebook___eq__ T)
  have G_law_store : FnG (PySem.Challenge.rw_everyprompt_k87_notebooks_kept_and_refus).prog w K mg base 1 _ fd_law_store ["script"] sd_vessel := FnG.of (P := (PySem.Challenge.rw_everyprompt_k87_notebooks_kept_and_refus).prog) (w := w) (base := base) F_law_store S_law_store (der_law_store T) (fun ds O Q E h => by unfold sd_vessel at h; split at h <;> first | rfl | exact h.elim) (rd_vessel 63)
  have G_law_draw : FnG (PySem.Challenge.rw_everyprompt_k87_notebooks_kept_and_refus).prog w K mg base 1 _ fd_law_draw ["store", "many"] sd_draw := FnG.of (P := (PySem.Challenge.rw_everyprompt_k87_notebooks_kept_and_refus).prog) (w := w) (base := base) F_law_draw S_law_draw (der_law_draw T) (fun ds O Q E h => by unfold sd_draw at h; split at h <;> first | rfl | exact h.elim) (rd_draw2 82007 4217 2147483587 86083 4217 2147483629 4217 82007 86083 2147483543 (by decide) (by decide) (by decide) (by decide) (by decide) (by decide) (by decide) (by decide) (by decide) (by decide))
  have G_law_is_same : FnG (PySem.Challenge.rw_everyprompt_k87_notebooks_kept_and_refus).prog w K mg base 1 _ fd_law_is_same ["told", "acts", "rows"] (sd_law_is_same K) := FnG.of (P := (PySem.Challenge.rw_everyprompt_k87_notebooks_kept_and_refus).prog) (w := w) (base := base) F_law_is_same S_law_is_same (der_law_is_same T) (fun ds O Q E h => by unfold sd_law_is_same at h; split at h <;> first | rfl | exact h.elim) (rd_law_is_same T)
  have G_is_within : FnG (PySem.Challenge.rw_everyprompt_k87_notebooks_kept_and_refus).prog w K mg base 2 _ fd_is_within ["value", "least", "most"] sd_is_within := FnG.of (P := (PySem.Challenge.rw_everyprompt_k87_notebooks_kept_and_refus).prog) (w := w) (base := base) F_is_within S_is_within (der_is_within T F_is_integer y_g_is_integer G_is_integer) (fun ds O Q E h => by unfold sd_is_within at h; split at h <;> first | rfl | exact h.elim) rd_is_within
  have G_law_pick : FnG (PySem.Challenge.rw_everyprompt_k87_notebooks_kept_and_refus).prog w K mg base 2 _ fd_law_pick ["store", "some"] sd_pick := FnG.of (P := (PySem.Challenge.rw_everyprompt_k87_notebooks_kept_and_refus).prog) (w := w) (base := base) F_law_pick S_law_pick (der_law_pick T F_law_draw y_g_law_draw G_law_draw) (fun ds O Q E h => by unfold sd_pick at h; split at h <;> first | rfl | exact h.elim) (rd_pick g_law_draw_p2 fun _ _ => rfl)
  have G_law_copied : FnG (PySem.Challenge.rw_everyprompt_k87_notebooks_kept_and_refus).prog w K mg base 2 _ fd_law_copied ["store", "rows"] sd_law_copied := FnG.of (P := (PySem.Challenge.rw_everyprompt_k87_notebooks_kept_and_refus).prog) (w := w) (base := base) F_law_copied S_law_copied (der_law_copied T F_law_draw y_g_law_draw G_law_draw) (fun ds O Q E h => by unfold sd_law_copied at h; split at h <;> first | rfl | exact h.elim) rd_law_copied
  have G_are_turns : FnG (PySem.Challenge.rw_everyprompt_k87_notebooks_kept_and_refus).prog w K mg base 3 _ fd_are_turns ["value", "pages"] sd_are_turns := FnG.of (P := (PySem.Challenge.rw_everyprompt_k87_notebooks_kept_and_refus).prog) (w := w) (base := base) F_are_turns S_are_turns (der_are_turns T F_is_within y_g_is_within G_is_within F_is_list y_g_is_list G_is_list) (fun ds O Q E h => by unfold sd_are_turns at h; split at h <;> first | rfl | exact h.elim) rd_are_turns
  have G_law_bad_moves : FnG (PySem.Challenge.rw_everyprompt_k87_notebooks_kept_and_refus).prog w K mg base 3 _ fd_law_bad_moves ["store", "acts"] sd_law_bad_moves := FnG.of (P := (PySem.Challenge.rw_everyprompt_k87_notebooks_kept_and_refus).prog) (w := w) (base := base) F_law_bad_moves S_law_bad_moves (der_law_bad_moves T F_law_pick y_g_law_pick G_law_pick F_law_draw y_g_law_draw G_law_draw) (fun ds O Q E h => by unfold sd_law_bad_moves at h; split at h <;> first | rfl | exact h.elim) rd_law_bad_moves
  have G_law_bad_turns : FnG (PySem.Challenge.rw_everyprompt_k87_notebooks_kept_and_refus).prog w K mg base 3 _ fd_law_bad_turns ["store", "rows"] sd_law_bad_turns := FnG.of (P := (PySem.Challenge.rw_everyprompt_k87_notebooks_kept_and_refus).prog) (w := w) (base := base) F_law_bad_turns S_law_bad_turns (der_law_bad_turns T F_law_pick y_g_law_pick G_law_pick F_law_draw y_g_law_draw G_law_draw) (fun ds O Q E h => by unfold sd_law_bad_turns at h; split at h <;> first | rfl | exact h.elim) rd_law_bad_turns
  have G_Notebook___init__ : FnG (PySem.Challenge.rw_everyprompt_k87_notebooks_kept_and_refus).prog w K mg base 4 _ fd_Notebook___init__ ["self", "moves", "turns"] (sd_Notebook___init__ K) := FnG.of (P := (PySem.Challenge.rw_everyprompt_k87_notebooks_kept_and_refus).prog) (w := w) (base := base) F_Notebook___init__ S_Notebook___init__ (der_Notebook___init__ T F_are_turns y_g_are_turns G_are_turns F_is_within y_g_is_within G_is_within F_is_list y_g_is_list G_is_list e_BadNotebook) (fun ds O Q E h => by unfold sd_Notebook___init__ at h; split at h <;> first | rfl | exact h.elim) (rd_Notebook___init__ T)
  have G_law_made : FnG (PySem.Challenge.rw_everyprompt_k87_notebooks_kept_and_refus).prog w K mg base 6 _ fd_law_made ["acts", "turned", "named"] (sd_law_made K) := FnG.of (P := (PySem.Challenge.rw_everyprompt_k87_notebooks_kept_and_refus).prog) (w := w) (base := base) F_law_made S_law_made (der_law_made T F_Notebook___init__ y_g_Notebook___init__ G_Notebook___init__) (fun ds O Q E h => by unfold sd_law_made at h; split at h <;> first | rfl | exact h.elim) (rd_law_made T)
  exact FnG.of (P := (PySem.Challenge.rw_everyprompt_k87_notebooks_kept_and_refus).prog) (w := w) (base := base) F_law S_law (der_law T F_law_made y_g_law_made G_law_made F_law_copied y_g_law_copied G_law_copied F_law_draw y_g_law_draw G_law_draw F_law_bad_turns y_g_law_bad_turns G_law_bad_turns F_law_pick y_g_law_pick G_law_pick F_law_bad_moves y_g_law_bad_moves G_law_bad_moves F_law_is_same y_g_law_is_same G_law_is_same F_Notebook___eq__ y_g_Notebook___eq__ G_Notebook___eq__ F_law_store y_g_law_store G_law_store) (fun ds O Q E h => by unfold sd_law at h; split at h <;> first | rfl | exact h.elim) (rd_law T)
end Lw
open PySem PySem.W PySem.Calls PyProof.Rows
theorem PySem.Challenge.cw_everyprompt_k87_notebooks_kept_and_refus_holds : PySem.Challenge.rw_everyprompt_k87_notebooks_kept_and_refus.Holds := by
  w_on; o_law
  refine HandSHeadRun.head_any (r := OpenLaw.row PySem.Challenge.rw_everyprompt_k87_notebooks_kept_and_refus) (q := view (OpenLaw.row PySem.Challenge.rw_everyprompt_k87_notebooks_kept_and_refus).prog [21]) (H := Lw.hk) (ob := Lw.ob) (M := 2420) (loose := Lw.loose) (d := HandSHeadRun.topDef (OpenLaw.row PySem.Challenge.rw_everyprompt_k87_notebooks_kept_and_refus).prog 21) (kwd := []) Lw.ob_eq
    (by kernel_rfl) (fun s => by kernel_rfl) Lw.run (by kernel_rfl) (by kernel_rfl) (by kernel_rfl) (by rfl) (by first | assumption | decide +kernel) (by decide +kernel) ⟨rfl, rfl, rfl, rfl, rfl, by decide +kernel⟩ ?hw ?hc
  case hw => w_witness2
  case hc =>
    refine Dx.dwalk (l := PySem.Challenge.rw_everyprompt_k87_notebooks_kept_and_refus) (n := 63) (k := 7) (x := "script") rfl (by decide) (by kernel_rfl) ⟨rfl, by decide, by decide⟩ ?F
    intro w mg fa h Y G hmg0
    obtain ⟨K, KX, c⟩ := Y
    have hmg : mg ("law" : PySem.Str) = some (.ref fa) := by
      have e : (HandSHeadRun.topDef (OpenLaw.row PySem.Challenge.rw_everyprompt_k87_notebooks_kept_and_refus).prog 21).name = ("law" : PySem.Str) := by kernel_rfl
      rw [← e]
      exact hmg0
    obtain ⟨fd, hb, hF⟩ := Lw.facts (w := w) KX G hmg c
    exact ⟨K, fd, Dx.sd_law, KX, hb, Dx.law_sp, hF⟩
