import PyProof.Rows.All
import Wide.All
import OpenK.AllK
import Wide.FinOn
import HandS.ForMost
import HandS.Exc
import HandS.ExcOwn
import HandS.WordsExc
import HandS.IsInst
import HandS.CallSlots
import HandS.RaiseMore
import HandS.Wide
import HandS.TupAny
import HandS.Text
import HandS.Defaults
import HandS.MakeKw
import KE.KStateDown
import HandS.More
import HandS.EndBits
import HandS.Head0
import HandS.Head1
import HandS.Head2
import HandS.HeadEnd
import HandS.HeadHook1
import HandS.HeadHook2
import HandS.Dict
import HandS.Keys
import PySem.Challenge.RW_everyprompt_k01_plain_values_told
set_option Elab.async false
set_option linter.all false
set_option maxRecDepth 100000
set_option maxHeartbeats 4000000
/-! Deep data over the hand layer: a value is told by what stands in it, all the way in; lists that change stand in a table of their own. -/
namespace Dx
open PySem L2
inductive D where
  | non | bl (b : Bool) | int (i : Int) | str (x : Str) | ty (n : String) | ref (a : Addr)
  | lst (ds : List D) | tup (ds : List D) | dic (ks : List (Key × D)) | ins (C : Addr) (fs : List (Str × D))
  /-- a list that is locked, or written at the top -/
  | wl (ds : List D)
mutual
/-- in the frozen heap F the value v is the datum d -/
inductive Rep (K : PySem.W.Frag) (F : Hp) : D → V → Prop
  | non : Rep K F .non .non
  | bl (b : Bool) : Rep K F (.bl b) (.bl b)
  | int (i : Int) : Rep K F (.int i) (.int i)
  | str (x : Str) : Rep K F (.str x) (.str x)
  | ty (n : String) : Rep K F (.ty n) (.ty n)
  | ref (a : Addr) : Rep K F (.ref a) (.ref a)
  | lst {a : Addr} {xs : List V} {ds : List D} : F a = some (.lst xs) → RepA K F ds xs → Rep K F (.lst ds) (.ref a)
  | wl {a : Addr} {xs : List V} {ds : List D} : SqL K F a xs → RepA K F ds xs → Rep K F (.wl ds) (.ref a)
  | tup {a : Addr} {xs : List V} {ds : List D} : SqT K F a xs → RepA K F ds xs → Rep K F (.tup ds) (.ref a)
  | dic {a : Addr} {kvs : List (Key × V)} {ks : List (Key × D)} : F a = some (.dK kvs) → RepK K F ks kvs → Rep K F (.dic ks) (.ref a)
  | ins {a C dx : Addr} {fs : List (Str × V)} {gs : List (Str × D)} : F a = some (.ins C dx fs) → RepF K F gs fs → Rep K F (.ins C gs) (.ref a)
inductive RepA (K : PySem.W.Frag) (F : Hp) : List D → List V → Prop
  | nil : RepA K F [] []
  | cons {d : D} {v : V} {ds : List D} {vs : List V} : Rep K F d v → RepA K F ds vs → RepA K F (d :: ds) (v :: vs)
inductive RepK (K : PySem.W.Frag) (F : Hp) : List (Key × D) → List (Key × V) → Prop
  | nil : RepK K F [] []
  | cons {k : Key} {d : D} {v : V} {ds : List (Key × D)} {vs : List (Key × V)} : Rep K F d v → RepK K F ds vs → RepK K F ((k, d) :: ds) ((k, v) :: vs)
inductive RepF (K : PySem.W.Frag) (F : Hp) : List (Str × D) → List (Str × V) → Prop
  | nil : RepF K F [] []
  | cons {k : Str} {d : D} {v : V} {ds : List (Str × D)} {vs : List (Str × V)} : Rep K F d v → RepF K F ds vs → RepF K F ((k, d) :: ds) ((k, v) :: vs)
end
section
variable {K : PySem.W.Frag} {F F' : Hp}
theorem same_sql (e : Same F F') {a : Addr} {xs : List V} (h : SqL K F a xs) : SqL K F' a xs := e.seq h
theorem same_sqt (e : Same F F') {a : Addr} {xs : List V} (h : SqT K F a xs) : SqT K F' a xs := by
  rcases h with (h | ⟨o, h⟩) | h
  · exact .inl (.inl (e _ _ h))
  · exact .inl (.inr ⟨o, e _ _ h⟩)
  · exact .inr h
mutual
theorem Rep.mono (e : Same F F') : ∀ {d : D} {v : V}, Rep K F d v → Rep K F' d v
  | _, _, .non => .non
  | _, _, .bl b => .bl b
  | _, _, .int i => .int i
  | _, _, .str x => .str x
  | _, _, .ty n => .ty n
  | _, _, .ref a => .ref a
  | _, _, .lst h r => .lst (e _ _ h) (RepA.mono e r)
  | _, _, .wl h r => .wl (same_sql e h) (RepA.mono e r)
  | _, _, .tup h r => .tup (same_sqt e h) (RepA.mono e r)
  | _, _, .dic h r => .dic (e _ _ h) (RepK.mono e r)
  | _, _, .ins h r => .ins (e _ _ h) (RepF.mono e r)
theorem RepA.mono (e : Same F F') : ∀ {ds : List D} {vs : List V}, RepA K F ds vs → RepA K F' ds vs
  | _, _, .nil => .nil
  | _, _, .cons h r => .cons (Rep.mono e h) (RepA.mono e r)
theorem RepK.mono (e : Same F F') : ∀ {ds : List (Key × D)} {vs : List (Key × V)}, RepK K F ds vs → RepK K F' ds vs
  | _, _, .nil => .nil
  | _, _, .cons h r => .cons (Rep.mono e h) (RepK.mono e r)
theorem RepF.mono (e : Same F F') : ∀ {ds : List (Str × D)} {vs : List (Str × V)}, RepF K F ds vs → RepF K F' ds vs
  | _, _, .nil => .nil
  | _, _, .cons h r => .cons (Rep.mono e h) (RepF.mono e r)
end
theorem RepA.length : ∀ {ds : List D} {vs : List V}, RepA K F ds vs → ds.length = vs.length
  | _, _, .nil => rfl
  | _, _, .cons _ r => by rw [List.length_cons, List.length_cons, RepA.length r]
theorem RepA.append : ∀ {ds es : List D} {vs ws : List V}, RepA K F ds vs → RepA K F es ws → RepA K F (ds ++ es) (vs ++ ws)
  | _, _, _, _, .nil, s => s
  | _, _, _, _, .cons h r, s => .cons h (RepA.append r s)
theorem RepA.get : ∀ {ds : List D} {vs : List V} {i : Nat} {d : D}, RepA K F ds vs → ds[i]? = some d → ∃ v, vs[i]? = some v ∧ Rep K F d v
  | _, _, _, _, .nil, e => by simp at e
  | _, _, 0, _, .cons h _, e => by simp at e; subst e; exact ⟨_, rfl, h⟩
  | _, _, i + 1, _, .cons _ r, e => by
    obtain ⟨v, h1, h2⟩ := RepA.get (i := i) r (by simpa using e)
    exact ⟨v, by simpa using h1, h2⟩
theorem RepA.getV : ∀ {ds : List D} {vs : List V} {i : Nat} {v : V}, RepA K F ds vs → vs[i]? = some v → ∃ d, ds[i]? = some d ∧ Rep K F d v
  | _, _, _, _, .nil, e => by simp at e
  | _, _, 0, _, .cons h _, e => by simp at e; subst e; exact ⟨_, rfl, h⟩
  | _, _, i + 1, _, .cons _ r, e => by
    obtain ⟨v, h1, h2⟩ := RepA.getV (i := i) r (by simpa using e)
    exact ⟨v, by simpa using h1, h2⟩
theorem RepA.take : ∀ {ds : List D} {vs : List V} (n : Nat), RepA K F ds vs → RepA K F (ds.take n) (vs.take n)
  | _, _, 0, _ => .nil
  | _, _, _ + 1, .nil => .nil
  | _, _, n + 1, .cons h r => .cons h (RepA.take n r)
theorem RepA.drop : ∀ {ds : List D} {vs : List V} (n : Nat), RepA K F ds vs → RepA K F (ds.drop n) (vs.drop n)
  | _, _, 0, r => r
  | _, _, _ + 1, .nil => .nil
  | _, _, n + 1, .cons _ r => RepA.drop n r
theorem RepA.set {d : D} {v : V} (q : Rep K F d v) : ∀ {ds : List D} {vs : List V} (i : Nat), RepA K F ds vs → RepA K F (ds.set i d) (vs.set i v)
  | _, _, _, .nil => .nil
  | _, _, 0, .cons _ r => .cons q r
  | _, _, i + 1, .cons h r => .cons h (RepA.set q i r)
end
/-- what changes: a list, a dict, an instance -/
inductive MO where
  | lst (ds : List D) | dic (ks : List (Key × D)) | ins (C : Addr) (fs : List (Str × D))
abbrev DH := Addr → Option MO
def updO (O : DH) (a : Addr) (m : MO) : DH := fun b => if b = a then some m else O b
theorem updO_same {O : DH} {a : Addr} {m : MO} : updO O a m a = some m := if_pos rfl
theorem updO_ne {O : DH} {a b : Addr} {m : MO} (h : b ≠ a) : updO O a m b = O b := if_neg h
def MRep (K : PySem.W.Frag) (F H : Hp) (a : Addr) : MO → Prop
  | .lst ds => ∃ xs, H a = some (.lst xs) ∧ RepA K F ds xs
  | .dic ks => ∃ kvs, H a = some (.dK kvs) ∧ RepK K F ks kvs
  | .ins C gs => ∃ dx fs, H a = some (.ins C dx fs) ∧ RepF K F gs fs
theorem MRep.some {K : PySem.W.Frag} {F H : Hp} {a : Addr} {m : MO} (h : MRep K F H a m) : ∃ o, H a = some o := by
  cases m with
  | lst ds => obtain ⟨xs, h, _⟩ := h; exact ⟨_, h⟩
  | dic ks => obtain ⟨xs, h, _⟩ := h; exact ⟨_, h⟩
  | ins C fs => obtain ⟨dx, xs, h, _⟩ := h; exact ⟨_, h⟩
theorem MRep.mono {K : PySem.W.Frag} {F F' H H' : Hp} {a : Addr} {m : MO} (h : MRep K F H a m) (e : Same F F') (q : H' a = H a) : MRep K F' H' a m := by
  cases m with
  | lst ds => obtain ⟨xs, h, r⟩ := h; exact ⟨xs, q.trans h, r.mono e⟩
  | dic ks => obtain ⟨xs, h, r⟩ := h; exact ⟨xs, q.trans h, r.mono e⟩
  | ins C fs => obtain ⟨dx, xs, h, r⟩ := h; exact ⟨dx, xs, q.trans h, r.mono e⟩
/-- the frozen part and the table of what changes, as they stand in H -/
structure OkS (K : PySem.W.Frag) (H F : Hp) (O : DH) : Prop where
  ex : Same F H
  own : ∀ a m, O a = some m → F a = none ∧ MRep K F H a m
/-- a new object is frozen -/
theorem OkS.lay {K : PySem.W.Frag} {H F : Hp} {O : DH} (k : OkS K H F O) {p : Addr} (hp : H p = none) (o : HO) : OkS K (upd H p o) (upd F p o) O ∧ Same F (upd F p o) := by
  have fp : F p = none := k.ex.free hp
  have e : Same F (upd F p o) := fun b u h => by rw [upd_ne (ne_of_none h fp)]; exact h
  refine ⟨⟨fun b u h => ?_, fun b m h => ?_⟩, e⟩
  · by_cases hb : b = p
    · subst hb; rw [upd_same] at h ⊢; exact h
    · rw [upd_ne hb] at h ⊢; exact k.ex b u h
  · obtain ⟨h1, h2⟩ := k.own b m h
    obtain ⟨u, hu⟩ := h2.some
    have ne : b ≠ p := ne_of_none hu hp
    exact ⟨by rw [upd_ne ne]; exact h1, h2.mono e (upd_ne ne)⟩
/-- a new object that is not told (it may be) -/
theorem OkS.more {K : PySem.W.Frag} {H F : Hp} {O : DH} (k : OkS K H F O) {p : Addr} (hp : H p = none) (o : HO) : OkS K (upd H p o) F O := by
  refine ⟨fun b u h => ?_, fun b m h => ?_⟩
  · rw [upd_ne (ne_of_none (k.ex b u h) hp)]; exact k.ex b u h
  · obtain ⟨h1, h2⟩ := k.own b m h
    obtain ⟨u, hu⟩ := h2.some
    exact ⟨h1, h2.mono (Same.refl F) (upd_ne (ne_of_none hu hp))⟩
/-- a new object that may change -/
theorem OkS.layM {K : PySem.W.Frag} {H F : Hp} {O : DH} (k : OkS K H F O) {p : Addr} (hp : H p = none) {o : HO} {m : MO} (hm : MRep K F (upd H p o) p m) : OkS K (upd H p o) F (updO O p m) := by
  have q := k.more hp o
  refine ⟨q.ex, fun b m' h => ?_⟩
  by_cases hb : b = p
  · subst hb
    rw [updO_same] at h
    cases h
    exact ⟨k.ex.free hp, hm⟩
  · rw [updO_ne hb] at h
    exact q.own b m' h
/-- what may change is changed -/
theorem OkS.put {K : PySem.W.Frag} {H F : Hp} {O : DH} (k : OkS K H F O) {p : Addr} {m0 : MO} (h0 : O p = some m0) {o : HO} {m : MO} (hm : MRep K F (upd H p o) p m) : OkS K (upd H p o) F (updO O p m) := by
  have fp := (k.own p m0 h0).1
  refine ⟨fun b u h => ?_, fun b m' h => ?_⟩
  · rw [upd_ne (ne_of_none h fp)]; exact k.ex b u h
  · by_cases hb : b = p
    · subst hb
      rw [updO_same] at h
      cases h
      exact ⟨fp, hm⟩
    · rw [updO_ne hb] at h
      obtain ⟨h1, h2⟩ := k.own b m' h
      exact ⟨h1, h2.mono (Same.refl F) (upd_ne hb)⟩
/-- less is told -/
def Sub (O O' : DH) : Prop := ∀ a m, O a = some m → O' a = some m
theorem Sub.refl (O : DH) : Sub O O := fun _ _ h => h
theorem Sub.new {O : DH} {a : Addr} {m : MO} (h : O a = none) : Sub O (updO O a m) := fun b m' e => by
  rw [updO_ne (fun z => by rw [z, h] at e; cases e)]; exact e
theorem OkS.less {K : PySem.W.Frag} {H F : Hp} {O O' : DH} (k : OkS K H F O) (s : Sub O' O) : OkS K H F O' := ⟨k.ex, fun a m h => k.own a m (s a m h)⟩
theorem OkS.freeO {K : PySem.W.Frag} {H F : Hp} {O : DH} (k : OkS K H F O) {p : Addr} (hp : H p = none) : O p = none := by
  cases q : O p with
  | none => rfl
  | some m =>
    obtain ⟨_, h2⟩ := k.own p m q
    obtain ⟨u, hu⟩ := h2.some
    rw [hp] at hu; cases hu
abbrev DEnv := List (Option D)
structure EnvOk (K : PySem.W.Frag) (F : Hp) (σ : L2.St) (ρ : DEnv) : Prop where
  len : σ.length = ρ.length
  at_ : ∀ (i : Nat) (d : D), ρ[i]? = some (some d) → ∃ v, σ[i]? = some (some v) ∧ Rep K F d v
theorem EnvOk.mono {K : PySem.W.Frag} {F F' : Hp} {σ : L2.St} {ρ : DEnv} (h : EnvOk K F σ ρ) (e : Same F F') : EnvOk K F' σ ρ :=
  ⟨h.len, fun i d q => let ⟨v, h1, h2⟩ := h.at_ i d q; ⟨v, h1, h2.mono e⟩⟩
theorem EnvOk.set {K : PySem.W.Frag} {F : Hp} {σ : L2.St} {ρ : DEnv} (h : EnvOk K F σ ρ) {d : D} {v : V} (r : Rep K F d v) (i : Nat) : EnvOk K F (σ.set i (some v)) (ρ.set i (some d)) := by
  refine ⟨by rw [List.length_set, List.length_set]; exact h.len, fun j d' q => ?_⟩
  by_cases hj : i = j
  · subst hj
    rw [List.getElem?_set] at q
    by_cases hl : i < ρ.length
    · simp only [if_pos hl, if_true] at q
      cases q
      refine ⟨v, ?_, r⟩
      rw [List.getElem?_set]
      simp [h.len, hl]
    · simp [hl] at q
  · rw [List.getElem?_set_ne hj] at q
    obtain ⟨w, h1, h2⟩ := h.at_ j d' q
    exact ⟨w, by rw [List.getElem?_set_ne hj]; exact h1, h2⟩
theorem EnvOk.unset {K : PySem.W.Frag} {F : Hp} {σ : L2.St} {ρ : DEnv} (h : EnvOk K F σ ρ) (i : Nat) (x : Option V) : EnvOk K F (σ.set i x) (ρ.set i none) := by
  refine ⟨by rw [List.length_set, List.length_set]; exact h.len, fun j d' q => ?_⟩
  by_cases hj : i = j
  · subst hj
    rw [List.getElem?_set] at q
    by_cases hl : i < ρ.length
    · simp [hl] at q
    · simp [hl] at q
  · rw [List.getElem?_set_ne hj] at q
    obtain ⟨w, h1, h2⟩ := h.at_ j d' q
    exact ⟨w, by rw [List.getElem?_set_ne hj]; exact h1, h2⟩
/-- an error's own fields -/
def ExcRep (K : PySem.W.Frag) (F : Hp) (dd : Option Addr) (fs : List (Str × D)) : Prop := (dd = none ∧ fs = []) ∨ ∃ a xs, dd = some a ∧ F a = some (.xd xs) ∧ RepF K F fs xs
theorem ExcRep.mono {K : PySem.W.Frag} {F F' : Hp} {dd : Option Addr} {fs : List (Str × D)} (h : ExcRep K F dd fs) (e : Same F F') : ExcRep K F' dd fs := by
  rcases h with h | ⟨a, xs, h1, h2, h3⟩
  · exact .inl h
  · exact .inr ⟨a, xs, h1, e _ _ h2, h3.mono e⟩
abbrev QD := D → DH → Prop
abbrev XD := Value → List (Str × D) → DH → Prop
abbrev TD := DEnv → DH → QD → XD → Prop
abbrev TDT := DEnv → DH → (Bool → DH → Prop) → XD → Prop
abbrev TDA := DEnv → DH → (List D → DH → Prop) → XD → Prop
structure DEnds where
  nx : DEnv → DH → Prop
  rt : QD
  bk : DEnv → DH → Prop
  ct : DEnv → DH → Prop
  ex : Value → List (Str × D) → DEnv → DH → Prop
abbrev TDS := DEnds → DEnv → DH → Prop
section
variable (K : PySem.W.Frag) (W : WX)
def XRel (F : Hp) (σ : L2.St) (Ed : XD) : Prop := ∀ cls dd H' F' fs O', Same F F' → ExcRep K F' dd fs → OkS K H' F' O' → Ed cls fs O' → W cls dd σ H'
def up (td : TD) : TE := fun σ H Q => ∃ F ρ O Qd Ed, OkS K H F O ∧ EnvOk K F σ ρ ∧ td ρ O Qd Ed ∧ (∀ v H' F' d O', Same F F' → Rep K F' d v → OkS K H' F' O' → Qd d O' → Q v H') ∧ XRel K W F σ Ed
def upT (td : TDT) : TT := fun σ H Q => ∃ F ρ O Qd Ed, OkS K H F O ∧ EnvOk K F σ ρ ∧ td ρ O Qd Ed ∧ (∀ b H' F' O', Same F F' → OkS K H' F' O' → Qd b O' → Q b H') ∧ XRel K W F σ Ed
def upA (td : TDA) : TA := fun σ H Q => ∃ F ρ O Qd Ed, OkS K H F O ∧ EnvOk K F σ ρ ∧ td ρ O Qd Ed ∧ (∀ vs H' F' ds O', Same F F' → RepA K F' ds vs → OkS K H' F' O' → Qd ds O' → Q vs H') ∧ XRel K W F σ Ed
structure EndsRel (F : Hp) (Dd : DEnds) (Dn : Ends) : Prop where
  nx : ∀ σ' H' F' ρ' O', Same F F' → OkS K H' F' O' → EnvOk K F' σ' ρ' → Dd.nx ρ' O' → Dn.nx σ' H'
  bk : ∀ σ' H' F' ρ' O', Same F F' → OkS K H' F' O' → EnvOk K F' σ' ρ' → Dd.bk ρ' O' → Dn.bk σ' H'
  ct : ∀ σ' H' F' ρ' O', Same F F' → OkS K H' F' O' → EnvOk K F' σ' ρ' → Dd.ct ρ' O' → Dn.ct σ' H'
  rt : ∀ v H' F' d O', Same F F' → Rep K F' d v → OkS K H' F' O' → Dd.rt d O' → Dn.rt v H'
  ex : ∀ cls dd σ' H' F' fs ρ' O', Same F F' → ExcRep K F' dd fs → OkS K H' F' O' → EnvOk K F' σ' ρ' → Dd.ex cls fs ρ' O' → W cls dd σ' H'
def upS (td : TDS) : TS := fun Dn σ H => ∃ F ρ O Dd, OkS K H F O ∧ EnvOk K F σ ρ ∧ td Dd ρ O ∧ EndsRel K W F Dd Dn
end
theorem XRel.mono {K : PySem.W.Frag} {W : WX} {F F' : Hp} {σ : L2.St} {Ed : XD} (x : XRel K W F σ Ed) (e : Same F F') : XRel K W F' σ Ed := fun cls dd H' F'' fs O' e' r k q => x cls dd H' F'' fs O' (e.trans e') r k q
theorem EndsRel.mono {K : PySem.W.Frag} {W : WX} {F F' : Hp} {Dd : DEnds} {Dn : Ends} (x : EndsRel K W F Dd Dn) (e : Same F F') : EndsRel K W F' Dd Dn :=
  ⟨fun _ _ _ _ _ h => x.nx _ _ _ _ _ (e.trans h), fun _ _ _ _ _ h => x.bk _ _ _ _ _ (e.trans h), fun _ _ _ _ _ h => x.ct _ _ _ _ _ (e.trans h), fun _ _ _ _ _ h => x.rt _ _ _ _ _ (e.trans h), fun _ _ _ _ _ _ _ _ h => x.ex _ _ _ _ _ _ _ _ (e.trans h)⟩
theorem EndsRel.xr {K : PySem.W.Frag} {W : WX} {F : Hp} {Dd : DEnds} {Dn : Ends} (x : EndsRel K W F Dd Dn) {σ : L2.St} {ρ : DEnv} (env : EnvOk K F σ ρ) : XRel K W F σ (fun c f O' => Dd.ex c f ρ O') :=
  fun cls dd H' F' fs O' e r k q => x.ex cls dd σ H' F' fs ρ O' e r k (env.mono e) q
abbrev DE (X : Cx) (W : WX) (e : Expr) (td : TD) : Prop := PE X e (up X.K W td)
abbrev DT (X : Cx) (W : WX) (e : Expr) (td : TDT) : Prop := PT X e (upT X.K W td)
abbrev DW (X : Cx) (W : WX) (e : Expr) (td : TDT) : Prop := PW X e (upT X.K W td)
abbrev DA (X : Cx) (W : WX) (es : List Expr) (td : TDA) : Prop := PA X es (upA X.K W td)
abbrev DS (X : Cx) (W : WX) (st : Stmt) (td : TDS) : Prop := PS X st (upS X.K W td)
abbrev DSs (X : Cx) (W : WX) (st : List Stmt) (td : TDS) : Prop := PSs X st (upS X.K W td)
theorem pe_imp {X : Cx} {e : Expr} {te te' : TE} (h : PE X e te) (i : ∀ σ H Q, te' σ H Q → te σ H Q) : PE X e te' := ⟨fun pins s σ H Q I hw => h.run pins s σ H Q I (i σ H Q hw)⟩
theorem pt_imp {X : Cx} {e : Expr} {te te' : TT} (h : PT X e te) (i : ∀ σ H Q, te' σ H Q → te σ H Q) : PT X e te' := ⟨fun pins s σ H Q I hw => h.run pins s σ H Q I (i σ H Q hw)⟩
theorem pw_imp {X : Cx} {e : Expr} {te te' : TT} (h : PW X e te) (i : ∀ σ H Q, te' σ H Q → te σ H Q) : PW X e te' := ⟨fun wh pins s σ H Q I hw => h.run wh pins s σ H Q I (i σ H Q hw)⟩
theorem pa_imp {X : Cx} {es : List Expr} {te te' : TA} (h : PA X es te) (i : ∀ σ H Q, te' σ H Q → te σ H Q) : PA X es te' := ⟨fun pos pins s σ H Q I hw => h.run pos pins s σ H Q I (i σ H Q hw)⟩
theorem ps_imp {X : Cx} {st : Stmt} {te te' : TS} (h : PS X st te) (i : ∀ E σ H, te' E σ H → te E σ H) : PS X st te' := ⟨fun pins s σ H E I hw => h.run pins s σ H E I (i E σ H hw)⟩
theorem pss_imp {X : Cx} {st : List Stmt} {te te' : TS} (h : PSs X st te) (i : ∀ E σ H, te' E σ H → te E σ H) : PSs X st te' := ⟨fun pins s σ H E I hw => h.run pins s σ H E I (i E σ H hw)⟩
end Dx
namespace Dx
open PySem L2
/-! ### names, constants -/
def dVar (i : Nat) : TD := fun ρ O Q _ => match ρ[i]? with
  | some (some d) => Q d O
  | _ => False
def dC (d : D) : TD := fun _ O Q _ => Q d O
section
variable {X : Cx} {W : WX}
theorem de_var (i : Nat) {x : Str} {pos : Pos} (hN : X.N[i]? = some x := by rfl) (hv : Vis X.env.scope x := by first | exact Or.inl rfl | exact Or.inr (Or.inl rfl) | exact Or.inr (Or.inr rfl)) (hd : (x == ("__debug__" : Str)) = false := by decide)
    (hcd : (x == ("__classdict__" : Str)) = false := by decide) : DE X W (.Name x pos) (dVar i) := by
  refine pe_imp (pe_var hN hv hd hcd) fun σ H Q h => ?_
  obtain ⟨F, ρ, O, Qd, Ed, ok, env, td, k, _⟩ := h
  unfold dVar at td
  split at td
  · next d e =>
    obtain ⟨v, h1, h2⟩ := env.at_ i d e
    exact ⟨v, h1, k v H F d O (Same.refl F) h2 ok td⟩
  · exact td.elim
theorem up_c {K : PySem.W.Frag} {d : D} {v : V} (r : ∀ F, Rep K F d v) : ∀ σ H Q, up K W (dC d) σ H Q → tC v σ H Q := fun σ H Q h => by
  obtain ⟨F, ρ, O, Qd, Ed, ok, env, td, k, _⟩ := h
  exact k v H F d O (Same.refl F) (r F) ok td
theorem de_int {i j pos} : DE X W (.Constant (.int i) j pos) (dC (.int i)) := pe_imp pe_int (up_c fun _ => .int i)
theorem de_bl {b j pos} : DE X W (.Constant (.bool b) j pos) (dC (.bl b)) := pe_imp pe_bl (up_c fun _ => .bl b)
theorem de_non {j pos} : DE X W (.Constant .none j pos) (dC .non) := pe_imp pe_non (up_c fun _ => .non)
theorem de_str {x j pos} : DE X W (.Constant (.str x) j pos) (dC (.str x)) := pe_imp pe_str (up_c fun _ => .str x)
theorem de_glob {x : Str} {d : D} {v : V} {u : Value} {pos : Pos} (hg : Gl X x) (hm : X.mg x = some u) (r : RelV v u) (rd : ∀ F, Rep X.K F d v) (hd : (x == ("__debug__" : Str)) = false := by decide) : DE X W (.Name x pos) (dC d) := pe_imp (pe_glob hg hm r hd) (up_c rd)
theorem de_ty {x : Str} {n : String} {pos : Pos} (hg : Gl X x) (hm : X.mg x = none) (hv : bootBuiltins x = some (.type n)) (hn : x ≠ "__name__" := by decide) (hd : (x == ("__debug__" : Str)) = false := by decide) : DE X W (.Name x pos) (dC (.ty n)) :=
  pe_imp (pe_bltn (v := .ty n) hg hm hv rfl hn hd) (up_c fun _ => .ty n)
/-! ### operators -/
abbrev FD2 := DH → D → D → (D → Prop) → Prop
def dBin (f : FD2) (ta tb : TD) : TD := fun ρ O Q E => ta ρ O (fun x O1 => tb ρ O1 (fun y O2 => f O2 x y fun z => Q z O2) E) E
def Op2 (K : PySem.W.Frag) (r : R2) (f : FD2) : Prop := ∀ (H F : Hp) (O : DH) (dx dy : D) (x y : V) (Qd : D → Prop) (Q : VK), OkS K H F O → Rep K F dx x → Rep K F dy y → f O dx dy Qd →
  (∀ v H' F' d, Same F F' → Rep K F' d v → OkS K H' F' O → Qd d → Q v H') → r x y H Q
theorem up_bin {K : PySem.W.Frag} {r : R2} {f : FD2} {ta tb : TD} (h : Op2 K r f) : ∀ σ H Q, up K W (dBin f ta tb) σ H Q → tOp r (up K W ta) (up K W tb) σ H Q := fun σ H Q u => by
  obtain ⟨F, ρ, O, Qd, Ed, ok, env, td, k, xr⟩ := u
  refine ⟨F, ρ, O, _, Ed, ok, env, td, fun v H1 F1 d O1 e1 r1 ok1 q1 => ?_, xr⟩
  refine ⟨F1, ρ, O1, _, Ed, ok1, env.mono e1, q1, fun v2 H2 F2 d2 O2 e2 r2 ok2 q2 => ?_, xr.mono e1⟩
  exact h H2 F2 O2 d d2 v v2 _ Q ok2 (r1.mono e2) r2 q2 fun v3 H3 F3 d3 e3 r3 ok3 q3 => k v3 H3 F3 d3 O2 ((e1.trans e2).trans e3) r3 ok3 q3
theorem de_op {op : Operator} {r : R2} {f : FD2} {a b : Expr} {ta tb : TD} {pos : Pos} (ho : OpR X (binaryOp op) r) (h : Op2 X.K r f) (ha : DE X W a ta) (hb : DE X W b tb) : DE X W (.BinOp a op b pos) (dBin f ta tb) := pe_imp (pe_op ho ha hb) (up_bin h)
theorem de_cmp {op : CmpOp} {r : R2} {f : FD2} {a b : Expr} {ta tb : TD} {pos : Pos} (ho : OpR X (compareOp op) r) (h : Op2 X.K r f) (ha : DE X W a ta) (hb : DE X W b tb) (hm : behindInMarks op b = false := by rfl) : DE X W (.Compare a [op] [b] pos) (dBin f ta tb) := pe_imp (pe_cmpR ho ha hb hm) (up_bin h)
theorem de_ix {r : R2} {f : FD2} {a b : Expr} {ta tb : TD} {pos : Pos} (hr : IxR X r) (h : Op2 X.K r f) (ha : DE X W a ta) (hb : DE X W b tb) (hs : PlainIx b := by intro _ _; rfl) : DE X W (.Subscript a b pos) (dBin f ta tb) := pe_imp (pe_ix hr ha hb hs) (up_bin h)
theorem Op2.or {K : PySem.W.Frag} {r r' : R2} {f : FD2} {f1 f2 : FD2} (h : Op2 K r f1) (h' : Op2 K r' f2) (s : ∀ O x y Q, f O x y Q → f1 O x y Q ∨ f2 O x y Q) : Op2 K (fun x y H Q => r x y H Q ∨ r' x y H Q) f := fun H F O dx dy x y Qd Q ok rx ry q k => by
  rcases s _ _ _ _ q with q | q
  · exact .inl (h H F O dx dy x y Qd Q ok rx ry q k)
  · exact .inr (h' H F O dx dy x y Qd Q ok rx ry q k)
def dUn (f : D → (D → Prop) → Prop) (ta : TD) : TD := fun ρ O Q E => ta ρ O (fun x O1 => f x fun z => Q z O1) E
def Op1 (K : PySem.W.Frag) (r : V → Hp → VK → Prop) (f : D → (D → Prop) → Prop) : Prop := ∀ (H F : Hp) (O : DH) (dx : D) (x : V) (Qd : D → Prop) (Q : VK), OkS K H F O → Rep K F dx x → f dx Qd →
  (∀ v H' F' d, Same F F' → Rep K F' d v → OkS K H' F' O → Qd d → Q v H') → r x H Q
theorem de_un {op : UnaryOp} {r : V → Hp → VK → Prop} {f : D → (D → Prop) → Prop} {a : Expr} {ta : TD} {pos : Pos} (ho : UnR X (unaryOp op) r) (h : Op1 X.K r f) (ha : DE X W a ta) : DE X W (.UnaryOp op a pos) (dUn f ta) := by
  refine pe_imp (pe_un ho ha) fun σ H Q u => ?_
  obtain ⟨F, ρ, O, Qd, Ed, ok, env, td, k, xr⟩ := u
  refine ⟨F, ρ, O, _, Ed, ok, env, td, fun v H1 F1 d O1 e1 r1 ok1 q1 => ?_, xr⟩
  exact h H1 F1 O1 d v _ Q ok1 r1 q1 fun v3 H3 F3 d3 e3 r3 ok3 q3 => k v3 H3 F3 d3 O1 (e1.trans e3) r3 ok3 q3
end
section
variable {K : PySem.W.Frag}
/-- two ints -/
def fI (C : Int → Int → Prop) (g : Int → Int → D) : FD2 := fun _ x y Q => match x, y with
  | .int i, .int j => C i j ∧ Q (g i j)
  | _, _ => False
def fI0 (g : Int → Int → D) : FD2 := fun _ x y Q => match x, y with
  | .int i, .int j => Q (g i j)
  | _, _ => False
theorem o2_I {C : Int → Int → Prop} {g : Int → Int → D} {gv : Int → Int → V} (hg : ∀ F i j, Rep K F (g i j) (gv i j)) : Op2 K (rI C gv) (fI C g) := fun H F O dx dy x y Qd Q ok rx ry q k => by
  unfold fI at q
  split at q
  · cases rx; cases ry
    exact ⟨_, _, rfl, rfl, q.1, k _ H F _ (Same.refl F) (hg _ _ _) ok q.2⟩
  · exact q.elim
theorem o2_I0 {g : Int → Int → D} {gv : Int → Int → V} (hg : ∀ F i j, Rep K F (g i j) (gv i j)) : Op2 K (rI0 gv) (fI0 g) := fun H F O dx dy x y Qd Q ok rx ry q k => by
  unfold fI0 at q
  split at q
  · cases rx; cases ry
    exact ⟨_, _, rfl, rfl, k _ H F _ (Same.refl F) (hg _ _ _) ok q⟩
  · exact q.elim
def fU (g : Int → D) : D → (D → Prop) → Prop := fun x Q => match x with
  | .int i => Q (g i)
  | _ => False
theorem o1_U {g : Int → D} {gv : Int → V} (hg : ∀ F i, Rep K F (g i) (gv i)) : Op1 K (rU gv) (fU g) := fun H F O dx x Qd Q ok rx q k => by
  unfold fU at q
  split at q
  · cases rx
    exact ⟨_, rfl, k _ H F _ (Same.refl F) (hg _ _) ok q⟩
  · exact q.elim
/-- what a list or tuple holds; a list that changes, too -/
def items (O : DH) : D → Option (List D)
  | .lst ds => some ds
  | .wl ds => some ds
  | .tup ds => some ds
  | .ref a => match O a with
    | some (.lst ds) => some ds
    | _ => none
  | _ => none
theorem OkS.lst {K : PySem.W.Frag} {H F : Hp} {O : DH} (k : OkS K H F O) {a : Addr} {ds : List D} (h : O a = some (.lst ds)) : ∃ xs, H a = some (.lst xs) ∧ RepA K F ds xs := (k.own a _ h).2
theorem items_rep {H F : Hp} {O : DH} (k : OkS K H F O) {d : D} {v : V} (r : Rep K F d v) {ds : List D} (h : items O d = some ds) : ∃ a xs, v = .ref a ∧ (SqL K H a xs ∨ SqT K H a xs) ∧ RepA K F ds xs := by
  cases r with
  | lst h1 h2 => cases h; exact ⟨_, _, rfl, .inl (.inl (.inl (k.ex _ _ h1))), h2⟩
  | wl h1 h2 => cases h; exact ⟨_, _, rfl, .inl (same_sql k.ex h1), h2⟩
  | tup h1 h2 => cases h; exact ⟨_, _, rfl, .inr (same_sqt k.ex h1), h2⟩
  | ref a =>
    unfold items at h
    simp only at h
    split at h
    · next ds' e =>
      cases h
      obtain ⟨xs, h1, h2⟩ := k.lst e
      exact ⟨a, xs, rfl, .inl (.inl (.inl h1)), h2⟩
    · cases h
  | non => cases h
  | bl => cases h
  | int => cases h
  | str => cases h
  | ty => cases h
  | dic => cases h
  | ins => cases h
/-- a list alone -/
def itemsL (O : DH) : D → Option (List D)
  | .lst ds => some ds
  | .wl ds => some ds
  | .ref a => match O a with
    | some (.lst ds) => some ds
    | _ => none
  | _ => none
theorem itemsL_rep {H F : Hp} {O : DH} (k : OkS K H F O) {d : D} {v : V} (r : Rep K F d v) {ds : List D} (h : itemsL O d = some ds) : ∃ a xs, v = .ref a ∧ SqL K H a xs ∧ RepA K F ds xs := by
  cases r with
  | lst h1 h2 => cases h; exact ⟨_, _, rfl, .inl (.inl (k.ex _ _ h1)), h2⟩
  | wl h1 h2 => cases h; exact ⟨_, _, rfl, same_sql k.ex h1, h2⟩
  | ref a =>
    unfold itemsL at h
    simp only at h
    split at h
    · next ds' e =>
      cases h
      obtain ⟨xs, h1, h2⟩ := k.lst e
      exact ⟨a, xs, rfl, .inl (.inl h1), h2⟩
    · cases h
  | tup => cases h
  | non => cases h
  | bl => cases h
  | int => cases h
  | str => cases h
  | ty => cases h
  | dic => cases h
  | ins => cases h
/-! ### xs[i] -/
theorem ixN_lt {n : Nat} {i : Int} {j : Nat} (h : ixN n i = some j) : j < n := (ixN_seq h).2.1
def ixD (O : DH) (x y : D) : Option D := match y with
  | .int i => match x with
    | .str z => if z.length ≤ sizeLine then (atI z.cps.toList i).map fun c => .str ⟨#[c]⟩ else none
    | x => (items O x).bind fun ds => atI ds i
  | _ => none
def fIx : FD2 := fun O x y Q => match ixD O x y with
  | some d => Q d
  | none => False
theorem atI_rep {F : Hp} {ds : List D} {xs : List V} (r : RepA K F ds xs) {i : Int} {d : D} (h : atI ds i = some d) : ∃ v, atI xs i = some v ∧ Rep K F d v := by
  unfold atI at h ⊢
  rw [← r.length]
  cases e : ixN ds.length i with
  | none => rw [e] at h; cases h
  | some j =>
    rw [e] at h
    exact r.get h
theorem o2_ix : Op2 K (rIx K) fIx := fun H F O dx dy x y Qd Q ok rx ry q k => by
  unfold fIx at q
  split at q
  · next d hd =>
    unfold ixD at hd
    split at hd
    · next i =>
      cases ry
      split at hd
      · next z =>
        cases rx
        by_cases hz : z.length ≤ sizeLine
        · rw [if_pos hz] at hd
          cases hc : atI z.cps.toList i with
          | none => rw [hc] at hd; cases hd
          | some c =>
            rw [hc] at hd
            cases hd
            exact .inr (.inr ⟨z, i, c, rfl, rfl, hz, hc, k _ H F _ (Same.refl F) (.str _) ok q⟩)
        · rw [if_neg hz] at hd; cases hd
      · cases hi : items O dx with
        | none => rw [hi] at hd; cases hd
        | some ds =>
          rw [hi] at hd
          obtain ⟨a, xs, e, hs, ra⟩ := items_rep ok rx hi
          obtain ⟨v, hv, rv⟩ := atI_rep ra hd
          have fin := k v H F d (Same.refl F) rv ok q
          rcases hs with hs | hs
          · exact .inl ⟨a, xs, i, v, e, rfl, hs, hv, fin⟩
          · exact .inr (.inl ⟨a, xs, i, v, e, rfl, hs, hv, fin⟩)
    · cases hd
  · exact q.elim
/-! ### == of data -/
mutual
def D.py : D → Option PyData
  | .non => some .none
  | .bl b => some (.bool b)
  | .int i => some (.int i)
  | .str x => some (.str x)
  | .lst ds => (D.pys ds).map .list
  | .wl ds => (D.pys ds).map .list
  | .tup ds => (D.pys ds).map .tuple
  | _ => none
def D.pys : List D → Option (List PyData)
  | [] => some []
  | d :: ds => match D.py d, D.pys ds with
    | some p, some ps => some (p :: ps)
    | _, _ => none
end
mutual
theorem Rep.dp {H F : Hp} (e : Same F H) : ∀ {d : D} {v : V} {p : PyData}, Rep K F d v → d.py = some p → Dp K H v p
  | .non, _, _, .non, h => by cases h; exact .non
  | .bl b, _, _, .bl _, h => by cases h; exact .bl b
  | .int b, _, _, .int _, h => by cases h; exact .int b
  | .str b, _, _, .str _, h => by cases h; exact .str b
  | .lst ds, _, p, .lst hs ra, h => by
    unfold D.py at h
    cases hp : D.pys ds with
    | none => rw [hp] at h; cases h
    | some ps => rw [hp] at h; cases h; exact .lst (.inl (.inl (e _ _ hs))) (RepA.dp e ra hp)
  | .wl ds, _, p, .wl hs ra, h => by
    unfold D.py at h
    cases hp : D.pys ds with
    | none => rw [hp] at h; cases h
    | some ps => rw [hp] at h; cases h; exact .lst (same_sql e hs) (RepA.dp e ra hp)
  | .tup ds, _, p, .tup hs ra, h => by
    unfold D.py at h
    cases hp : D.pys ds with
    | none => rw [hp] at h; cases h
    | some ps => rw [hp] at h; cases h; exact .tup (same_sqt e hs) (RepA.dp e ra hp)
  | .ty _, _, _, .ty _, h => by cases h
  | .ref _, _, _, .ref _, h => by cases h
  | .dic _, _, _, .dic _ _, h => by cases h
  | .ins _ _, _, _, .ins _ _, h => by cases h
theorem RepA.dp {H F : Hp} (e : Same F H) : ∀ {ds : List D} {vs : List V} {ps : List PyData}, RepA K F ds vs → D.pys ds = some ps → DpAll K H vs ps
  | [], _, _, .nil, h => by cases h; exact .nil
  | d :: ds, _, ps, .cons hd hr, h => by
    unfold D.pys at h
    cases h1 : D.py d with
    | none => rw [h1] at h; cases h
    | some p =>
      cases h2 : D.pys ds with
      | none => rw [h1, h2] at h; cases h
      | some qs => rw [h1, h2] at h; cases h; exact .cons (Rep.dp e hd h1) (RepA.dp e hr h2)
end
def shown? (O : DH) : D → Option PyData
  | .ref a => match O a with
    | some (.lst ds) => (D.pys ds).map .list
    | _ => none
  | d => d.py
theorem shown_dp {H F : Hp} {O : DH} (k : OkS K H F O) {d : D} {v : V} {p : PyData} (r : Rep K F d v) (h : shown? O d = some p) : Dp K H v p := by
  cases d with
  | ref a =>
    cases r
    unfold shown? at h
    simp only at h
    split at h
    · next ds e =>
      obtain ⟨xs, h1, h2⟩ := k.lst e
      cases hp : D.pys ds with
      | none => rw [hp] at h; cases h
      | some ps => rw [hp] at h; cases h; exact .lst (.inl (.inl h1)) (h2.dp k.ex hp)
    · cases h
  | _ => exact r.dp k.ex h
/-- texts at once; all else as data -/
def fEq : FD2 := fun O x y Q => match x, y with
  | .str a, .str b => Q (.bl (decide (a = b)))
  | x, y => match shown? O x, shown? O y with
    | some p, some q => SeqAt.shaped p = true ∧ SeqAt.shaped q = true ∧ Q (.bl (PyData.eqv p q))
    | _, _ => False
def fNe : FD2 := fun O x y Q => match x, y with
  | .str a, .str b => Q (.bl (!decide (a = b)))
  | x, y => match shown? O x, shown? O y with
    | some p, some q => SeqAt.shaped p = true ∧ SeqAt.shaped q = true ∧ Q (.bl (!PyData.eqv p q))
    | _, _ => False
abbrev rEq2 (K : PySem.W.Frag) : R2 := fun x y H Q => rEq x y H Q ∨ rEqD K x y H Q
abbrev rNe2 (K : PySem.W.Frag) : R2 := fun x y H Q => rNe x y H Q ∨ rNeD K x y H Q
theorem op_eq2 {X : Cx} (hu : X.A.units + 64 < cLine) : OpR X (compareOp .Eq) (rEq2 X.K) := op_eq.or (op_eqD hu)
theorem op_ne2 {X : Cx} (hu : X.A.units + 64 < cLine) : OpR X (compareOp .NotEq) (rNe2 X.K) := op_ne.or (op_neD hu)
theorem dec_V {a b : Str} : decide (V.str a = V.str b) = decide (a = b) := by
  by_cases h : a = b
  · subst h; simp
  · simp [h]
theorem o2_eq : Op2 K (rEq2 K) fEq := fun H F O dx dy x y Qd Q ok rx ry q k => by
  unfold fEq at q
  split at q
  · cases rx; cases ry
    exact .inl ⟨rfl, by rw [dec_V]; exact k _ H F _ (Same.refl F) (.bl _) ok q⟩
  · split at q
    · next p q' h1 h2 => exact .inr ⟨p, q', shown_dp ok rx h1, shown_dp ok ry h2, q.1, q.2.1, k _ H F _ (Same.refl F) (.bl _) ok q.2.2⟩
    · exact q.elim
theorem o2_ne : Op2 K (rNe2 K) fNe := fun H F O dx dy x y Qd Q ok rx ry q k => by
  unfold fNe at q
  split at q
  · cases rx; cases ry
    exact .inl ⟨rfl, by rw [dec_V]; exact k _ H F _ (Same.refl F) (.bl _) ok q⟩
  · split at q
    · next p q' h1 h2 => exact .inr ⟨p, q', shown_dp ok rx h1, shown_dp ok ry h2, q.1, q.2.1, k _ H F _ (Same.refl F) (.bl _) ok q.2.2⟩
    · exact q.elim
/-! ### is None -/
def noneD : D → Bool
  | .non => true
  | _ => false
theorem noneD_rep {F : Hp} {d : D} {v : V} (r : Rep K F d v) : decide (v = V.non) = noneD d := by
  cases r <;> simp [noneD]
def fIsN : FD2 := fun _ x y Q => match y with
  | .non => Q (.bl (noneD x))
  | _ => False
def fNotN : FD2 := fun _ x y Q => match y with
  | .non => Q (.bl (!noneD x))
  | _ => False
theorem o2_isN : Op2 K (fun x y H Q => y = .non ∧ Q (.bl (decide (x = .non))) H) fIsN := fun H F O dx dy x y Qd Q ok rx ry q k => by
  unfold fIsN at q
  split at q
  · cases ry
    refine ⟨rfl, ?_⟩
    rw [noneD_rep rx]
    exact k _ H F _ (Same.refl F) (.bl _) ok q
  · exact q.elim
theorem o2_notN : Op2 K (fun x y H Q => y = .non ∧ Q (.bl (!decide (x = .non))) H) fNotN := fun H F O dx dy x y Qd Q ok rx ry q k => by
  unfold fNotN at q
  split at q
  · cases ry
    refine ⟨rfl, ?_⟩
    rw [noneD_rep rx]
    exact k _ H F _ (Same.refl F) (.bl _) ok q
  · exact q.elim
end
end Dx
namespace Dx
open PySem L2
section
variable {X : Cx} {W : WX} {a b c e : Expr} {ta tb tc : TD} {pos : Pos} {rest : List Expr} {tA tB : TDT}
/-! ### tests -/
def dTst (t : TD) : TDT := fun ρ O Q E => t ρ O (fun d O1 => match d with
  | .bl c => Q c O1
  | _ => False) E
theorem up_tst {K : PySem.W.Frag} {t : TD} : ∀ σ H Q, upT K W (dTst t) σ H Q → L2.tB (up K W t) σ H Q := fun σ H Q u => by
  obtain ⟨F, ρ, O, Qd, Ed, ok, env, td, k, xr⟩ := u
  refine ⟨F, ρ, O, _, Ed, ok, env, td, fun v H1 F1 d O1 e1 r1 ok1 q1 => ?_, xr⟩
  split at q1
  · cases r1
    exact ⟨_, rfl, k _ H1 F1 O1 e1 ok1 q1⟩
  · exact q1.elim
theorem dt_val {t : TD} (h : DE X W e t) (he : ∀ whole, isTrue e X.env whole = (do let v ← whole; standAt e.pos; holding [v] (truthy v)) := by intro _; rfl) : DT X W e (dTst t) := pt_imp (pt_val h he) up_tst
theorem dt_cmp {op : CmpOp} {r : R2} {f : FD2} (ho : OpR X (compareOp op) r) (h : Op2 X.K r f) (ha : DE X W a ta) (hb : DE X W b tb) (hm : behindInMarks op b = false := by rfl) : DT X W (.Compare a [op] [b] pos) (dTst (dBin f ta tb)) :=
  pt_imp (pt_cmpR ho ha hb hm) fun σ H Q u => by
    obtain ⟨F, ρ, O, Qd, Ed, ok, env, td, k, xr⟩ := u
    refine up_bin h σ H _ ⟨F, ρ, O, _, Ed, ok, env, td, fun v H1 F1 d O1 e1 r1 ok1 q1 => ?_, xr⟩
    split at q1
    · cases r1
      exact ⟨_, rfl, k _ H1 F1 O1 e1 ok1 q1⟩
    · exact q1.elim
def truth (O : DH) : D → Option Bool
  | .non => some false
  | .bl b => some b
  | .int i => some (i != 0)
  | .str x => if x.length ≤ sizeLine then some ((x.length : Int) != 0) else none
  | .dic ks => some (!ks.isEmpty)
  | d => (items O d).map fun ds => !ds.isEmpty
theorem isE_rep {K : PySem.W.Frag} {F : Hp} {ds : List D} {xs : List V} (r : RepA K F ds xs) : ds.isEmpty = xs.isEmpty := by cases r <;> rfl
theorem isK_rep {K : PySem.W.Frag} {F : Hp} {ds : List (Key × D)} {xs : List (Key × V)} (r : RepK K F ds xs) : ds.isEmpty = xs.isEmpty := by cases r <;> rfl
theorem truth_rep {K : PySem.W.Frag} {H F : Hp} {O : DH} (k : OkS K H F O) {d : D} {v : V} (r : Rep K F d v) {t : Bool} (h : truth O d = some t) : TruV K v H t := by
  have gen : (items O d).map (fun ds => !ds.isEmpty) = some t → TruV K v H t := fun h => by
    cases hi : items O d with
    | none => rw [hi] at h; cases h
    | some ds =>
      rw [hi] at h
      cases h
      obtain ⟨a, xs, rfl, hs, ra⟩ := items_rep k r hi
      show TruV K (.ref a) H (!ds.isEmpty)
      rw [isE_rep ra]
      rcases hs with hs | hs
      · exact .inl ⟨xs, hs, rfl⟩
      · exact .inr (.inl ⟨xs, hs, rfl⟩)
  cases r with
  | non => cases h; rfl
  | bl b => cases h; rfl
  | int i => cases h; rfl
  | str x =>
    have h' : (if x.length ≤ sizeLine then some ((x.length : Int) != 0) else none) = some t := h
    by_cases hz : x.length ≤ sizeLine
    · rw [if_pos hz] at h'; cases h'; exact ⟨hz, rfl⟩
    · rw [if_neg hz] at h'; cases h'
  | dic h1 h2 =>
    cases h
    rw [isK_rep h2]
    exact .inr (.inr ⟨_, k.ex _ _ h1, rfl⟩)
  | ty => cases h
  | ins => cases h
  | ref => exact gen h
  | lst => exact gen h
  | wl => exact gen h
  | tup => exact gen h
def dTru (t : TD) : TDT := fun ρ O Q E => t ρ O (fun d O1 => match truth O1 d with
  | some c => Q c O1
  | none => False) E
theorem dt_tru {t : TD} (h : DE X W e t) (he : ∀ whole, isTrue e X.env whole = (do let v ← whole; standAt e.pos; holding [v] (truthy v)) := by intro _; rfl) : DT X W e (dTru t) :=
  pt_imp (pt_truth h he) fun σ H Q u => by
    obtain ⟨F, ρ, O, Qd, Ed, ok, env, td, k, xr⟩ := u
    refine ⟨F, ρ, O, _, Ed, ok, env, td, fun v H1 F1 d O1 e1 r1 ok1 q1 => ?_, xr⟩
    split at q1
    · next ht => exact ⟨_, truth_rep ok1 r1 ht, k _ H1 F1 O1 e1 ok1 q1⟩
    · exact q1.elim
def dAnd (t u : TDT) : TDT := fun ρ O Q E => t ρ O (fun c O1 => match c with
  | true => u ρ O1 Q E
  | false => Q false O1) E
def dOr (t u : TDT) : TDT := fun ρ O Q E => t ρ O (fun c O1 => match c with
  | true => Q true O1
  | false => u ρ O1 Q E) E
def dNot (t : TDT) : TDT := fun ρ O Q E => t ρ O (fun c O1 => Q (!c) O1) E
theorem dw_and1 (ha : DT X W a tA) : DW X W (.BoolOp .And [a] pos) tA := pw_and1 ha
theorem dw_or1 (ha : DT X W a tA) : DW X W (.BoolOp .Or [a] pos) tA := pw_or1 ha
theorem dw_and (ha : DT X W a tA) (hb : DW X W (.BoolOp .And (b :: rest) pos) tB) : DW X W (.BoolOp .And (a :: b :: rest) pos) (dAnd tA tB) := pw_imp (pw_and ha hb) fun σ H Q u => by
  obtain ⟨F, ρ, O, Qd, Ed, ok, env, td, k, xr⟩ := u
  refine ⟨F, ρ, O, _, Ed, ok, env, td, fun b H1 F1 O1 e1 ok1 q1 => ?_, xr⟩
  cases b with
  | true => exact iteT ⟨F1, ρ, O1, Qd, Ed, ok1, env.mono e1, q1, fun b2 H2 F2 O2 e2 ok2 q2 => k b2 H2 F2 O2 (e1.trans e2) ok2 q2, xr.mono e1⟩
  | false => exact iteF (k _ _ _ _ e1 ok1 q1)
theorem dw_or (ha : DT X W a tA) (hb : DW X W (.BoolOp .Or (b :: rest) pos) tB) : DW X W (.BoolOp .Or (a :: b :: rest) pos) (dOr tA tB) := pw_imp (pw_or ha hb) fun σ H Q u => by
  obtain ⟨F, ρ, O, Qd, Ed, ok, env, td, k, xr⟩ := u
  refine ⟨F, ρ, O, _, Ed, ok, env, td, fun b H1 F1 O1 e1 ok1 q1 => ?_, xr⟩
  cases b with
  | false => exact iteF ⟨F1, ρ, O1, Qd, Ed, ok1, env.mono e1, q1, fun b2 H2 F2 O2 e2 ok2 q2 => k b2 H2 F2 O2 (e1.trans e2) ok2 q2, xr.mono e1⟩
  | true => exact iteT (k _ _ _ _ e1 ok1 q1)
theorem dt_w {t : TDT} (h : DW X W e t) : DT X W e t := h.pt
theorem dt_not (ha : DT X W a tA) : DT X W (.UnaryOp .Not a pos) (dNot tA) := pt_imp (pt_not ha) fun σ H Q u => by
  obtain ⟨F, ρ, O, Qd, Ed, ok, env, td, k, xr⟩ := u
  exact ⟨F, ρ, O, _, Ed, ok, env, td, fun b H1 F1 O1 e1 ok1 q1 => k _ _ _ _ e1 ok1 q1, xr⟩
/-! ### and, or, not of truths as values -/
def dAndV (ta tb : TD) : TD := fun ρ O Q E => ta ρ O (fun x O1 => match x with
  | .bl true => tb ρ O1 Q E
  | .bl false => Q (.bl false) O1
  | _ => False) E
def dOrV (ta tb : TD) : TD := fun ρ O Q E => ta ρ O (fun x O1 => match x with
  | .bl true => Q (.bl true) O1
  | .bl false => tb ρ O1 Q E
  | _ => False) E
def dNotV (ta : TD) : TD := fun ρ O Q E => ta ρ O (fun x O1 => match x with
  | .bl c => Q (.bl (!c)) O1
  | _ => False) E
theorem de_one {op} {t : TD} (h : DE X W a t) : DE X W (.BoolOp op [a] pos) t := pe_one h
theorem de_and (ha : DE X W a ta) (hb : DE X W (.BoolOp .And (b :: rest) pos) tb) : DE X W (.BoolOp .And (a :: b :: rest) pos) (dAndV ta tb) := pe_imp (pe_and ha hb) fun σ H Q u => by
  obtain ⟨F, ρ, O, Qd, Ed, ok, env, td, k, xr⟩ := u
  refine ⟨F, ρ, O, _, Ed, ok, env, td, fun v H1 F1 d O1 e1 r1 ok1 q1 => ?_, xr⟩
  split at q1
  · cases r1
    exact ⟨true, rfl, iteT ⟨F1, ρ, O1, Qd, Ed, ok1, env.mono e1, q1, fun v2 H2 F2 d2 O2 e2 r2 ok2 q2 => k v2 H2 F2 d2 O2 (e1.trans e2) r2 ok2 q2, xr.mono e1⟩⟩
  · cases r1
    exact ⟨false, rfl, iteF (k _ _ _ _ _ e1 (.bl false) ok1 q1)⟩
  · exact q1.elim
theorem de_or (ha : DE X W a ta) (hb : DE X W (.BoolOp .Or (b :: rest) pos) tb) : DE X W (.BoolOp .Or (a :: b :: rest) pos) (dOrV ta tb) := pe_imp (pe_or ha hb) fun σ H Q u => by
  obtain ⟨F, ρ, O, Qd, Ed, ok, env, td, k, xr⟩ := u
  refine ⟨F, ρ, O, _, Ed, ok, env, td, fun v H1 F1 d O1 e1 r1 ok1 q1 => ?_, xr⟩
  split at q1
  · cases r1
    exact ⟨true, rfl, iteT (k _ _ _ _ _ e1 (.bl true) ok1 q1)⟩
  · cases r1
    exact ⟨false, rfl, iteF ⟨F1, ρ, O1, Qd, Ed, ok1, env.mono e1, q1, fun v2 H2 F2 d2 O2 e2 r2 ok2 q2 => k v2 H2 F2 d2 O2 (e1.trans e2) r2 ok2 q2, xr.mono e1⟩⟩
  · exact q1.elim
theorem de_not (ha : DE X W a ta) : DE X W (.UnaryOp .Not a pos) (dNotV ta) := pe_imp (pe_not ha) fun σ H Q u => by
  obtain ⟨F, ρ, O, Qd, Ed, ok, env, td, k, xr⟩ := u
  refine ⟨F, ρ, O, _, Ed, ok, env, td, fun v H1 F1 d O1 e1 r1 ok1 q1 => ?_, xr⟩
  split at q1
  · cases r1
    exact ⟨_, rfl, k _ _ _ _ _ e1 (.bl _) ok1 q1⟩
  · exact q1.elim
def dIf (t : TDT) (ta tb : TD) : TD := fun ρ O Q E => t ρ O (fun c O1 => match c with
  | true => ta ρ O1 Q E
  | false => tb ρ O1 Q E) E
theorem de_if (hc : DT X W c tA) (ha : DE X W a ta) (hb : DE X W b tb) : DE X W (.IfExp c a b pos) (dIf tA ta tb) := pe_imp (pe_ifExp hc ha hb) fun σ H Q u => by
  obtain ⟨F, ρ, O, Qd, Ed, ok, env, td, k, xr⟩ := u
  refine ⟨F, ρ, O, _, Ed, ok, env, td, fun b H1 F1 O1 e1 ok1 q1 => ?_, xr⟩
  have go : ∀ t : TD, t ρ O1 Qd Ed → up X.K W t σ H1 Q := fun t q1 => ⟨F1, ρ, O1, Qd, Ed, ok1, env.mono e1, q1, fun v2 H2 F2 d2 O2 e2 r2 ok2 q2 => k v2 H2 F2 d2 O2 (e1.trans e2) r2 ok2 q2, xr.mono e1⟩
  cases b with
  | true => exact iteT (go _ q1)
  | false => exact iteF (go _ q1)
/-- a < b < c, ints or what the two rules take -/
def dChain (f f' : FD2) (ta tb tc : TD) : TD := fun ρ O Q E => ta ρ O (fun x O1 => tb ρ O1 (fun y O2 => f O2 x y fun z => match z with
  | .bl true => tc ρ O2 (fun w O3 => f' O3 y w fun z' => Q z' O3) E
  | .bl false => Q (.bl false) O2
  | _ => False) E) E
theorem up_chain {K : PySem.W.Frag} {r r' : R2} {f f' : FD2} (h : Op2 K r f) (h' : Op2 K r' f') : ∀ σ H Q, up K W (dChain f f' ta tb tc) σ H Q → tChain r r' (up K W ta) (up K W tb) (up K W tc) σ H Q := fun σ H Q u => by
  obtain ⟨F, ρ, O, Qd, Ed, ok, env, td, k, xr⟩ := u
  refine ⟨F, ρ, O, _, Ed, ok, env, td, fun v H1 F1 d O1 e1 r1 ok1 q1 => ?_, xr⟩
  refine ⟨F1, ρ, O1, _, Ed, ok1, env.mono e1, q1, fun v2 H2 F2 d2 O2 e2 r2 ok2 q2 => ?_, xr.mono e1⟩
  refine h H2 F2 O2 d d2 v v2 _ _ ok2 (r1.mono e2) r2 q2 fun v3 H3 F3 d3 e3 r3 ok3 q3 => ?_
  split at q3
  · cases r3
    refine ⟨true, rfl, iteT ⟨F3, ρ, O2, _, Ed, ok3, env.mono ((e1.trans e2).trans e3), q3, fun v4 H4 F4 d4 O4 e4 r4 ok4 q4 => ?_, xr.mono ((e1.trans e2).trans e3)⟩⟩
    exact h' H4 F4 O4 d2 d4 v2 v4 _ Q ok4 (r2.mono (e3.trans e4)) r4 q4 fun v5 H5 F5 d5 e5 r5 ok5 q5 => k v5 H5 F5 d5 O4 ((((e1.trans e2).trans e3).trans e4).trans e5) r5 ok5 q5
  · cases r3
    exact ⟨false, rfl, iteF (k _ _ _ _ _ ((e1.trans e2).trans e3) (.bl false) ok3 q3)⟩
  · exact q3.elim
theorem de_chain {op op' : CmpOp} {r r' : R2} {f f' : FD2} (ho : OpR X (compareOp op) r) (ho' : OpR X (compareOp op') r') (h : Op2 X.K r f) (h' : Op2 X.K r' f') (ha : DE X W a ta) (hb : DE X W b tb) (hc : DE X W c tc)
    (hm : lastMarks [op, op'] [b, c] = false := by with_unfolding_all rfl) : DE X W (.Compare a [op, op'] [b, c] pos) (dChain f f' ta tb tc) := pe_imp (pe_chain ho ho' ha hb hc hm) (up_chain h h')
/-! ### argument lists, displays -/
def dNil : TDA := fun _ O Q _ => Q [] O
def dCons (ta : TD) (tr : TDA) : TDA := fun ρ O Q E => ta ρ O (fun x O1 => tr ρ O1 (fun xs O2 => Q (x :: xs) O2) E) E
variable {es : List Expr} {tr : TDA}
theorem da_nil : DA X W [] dNil := pa_imp pa_nil fun σ H Q u => by
  obtain ⟨F, ρ, O, Qd, Ed, ok, env, td, k, xr⟩ := u
  exact k [] H F [] O (Same.refl F) .nil ok td
theorem da_cons (ha : DE X W e ta) (hr : DA X W es tr) (hs : starEach (e :: es) X.env = (false, eval e X.env) :: starEach es X.env := by rfl) : DA X W (e :: es) (dCons ta tr) := pa_imp (pa_cons ha hr hs) fun σ H Q u => by
  obtain ⟨F, ρ, O, Qd, Ed, ok, env, td, k, xr⟩ := u
  refine ⟨F, ρ, O, _, Ed, ok, env, td, fun v H1 F1 d O1 e1 r1 ok1 q1 => ?_, xr⟩
  exact ⟨F1, ρ, O1, _, Ed, ok1, env.mono e1, q1, fun vs H2 F2 ds O2 e2 r2 ok2 q2 => k _ H2 F2 _ O2 (e1.trans e2) (.cons (r1.mono e2) r2) ok2 q2, xr.mono e1⟩
def dTup (tr : TDA) : TD := fun ρ O Q E => tr ρ O (fun xs O1 => xs.length ≤ sizeLine ∧ Q (.tup xs) O1) E
def dLst (tr : TDA) : TD := fun ρ O Q E => tr ρ O (fun xs O1 => xs.length ≤ sizeLine ∧ Q (.lst xs) O1) E
/-- a list that will change -/
def dLstM (tr : TDA) : TD := fun ρ O Q E => tr ρ O (fun xs O1 => xs.length ≤ sizeLine ∧ ∀ a, O1 a = none → Q (.ref a) (updO O1 a (.lst xs))) E
theorem de_tup {x1} (h : DA X W es tr) : DE X W (.Tuple es x1 pos) (dTup tr) := pe_imp (pe_tup h) fun σ H Q u => by
  obtain ⟨F, ρ, O, Qd, Ed, ok, env, td, k, xr⟩ := u
  refine ⟨F, ρ, O, _, Ed, ok, env, td, fun vs H1 F1 ds O1 e1 r1 ok1 ⟨hl, q1⟩ => ⟨by rw [← r1.length]; exact hl, fun p hp => ?_⟩, xr⟩
  obtain ⟨ok2, e2⟩ := ok1.lay hp (.tup vs)
  exact k _ _ _ _ O1 (e1.trans e2) (.tup (.inl (.inl upd_same)) (r1.mono e2)) ok2 q1
theorem de_lst (h : DA X W es tr) : DE X W (.List es pos) (dLst tr) := pe_imp (pe_lst h) fun σ H Q u => by
  obtain ⟨F, ρ, O, Qd, Ed, ok, env, td, k, xr⟩ := u
  refine ⟨F, ρ, O, _, Ed, ok, env, td, fun vs H1 F1 ds O1 e1 r1 ok1 ⟨hl, q1⟩ => ⟨by rw [← r1.length]; exact hl, fun p hp => ?_⟩, xr⟩
  obtain ⟨ok2, e2⟩ := ok1.lay hp (.lst vs)
  exact k _ _ _ _ O1 (e1.trans e2) (.lst upd_same (r1.mono e2)) ok2 q1
theorem de_lstM (h : DA X W es tr) : DE X W (.List es pos) (dLstM tr) := pe_imp (pe_lst h) fun σ H Q u => by
  obtain ⟨F, ρ, O, Qd, Ed, ok, env, td, k, xr⟩ := u
  refine ⟨F, ρ, O, _, Ed, ok, env, td, fun vs H1 F1 ds O1 e1 r1 ok1 ⟨hl, q1⟩ => ⟨by rw [← r1.length]; exact hl, fun p hp => ?_⟩, xr⟩
  exact k _ _ F1 _ _ e1 (.ref p) (ok1.layM (m := .lst ds) hp ⟨vs, upd_same, r1⟩) (q1 p (ok1.freeO hp))
/-- {} -/
def dDic0 : TD := fun _ O Q _ => Q (.dic []) O
def dDic0M : TD := fun _ O Q _ => ∀ a, O a = none → Q (.ref a) (updO O a (.dic []))
theorem de_dic0 : DE X W (.Dict [] [] pos) dDic0 := pe_imp pe_dnewK fun σ H Q u => by
  obtain ⟨F, ρ, O, Qd, Ed, ok, env, td, k, xr⟩ := u
  intro p hp
  obtain ⟨ok2, e2⟩ := ok.lay hp (.dK [])
  exact k _ _ _ _ O e2 (.dic upd_same .nil) ok2 td
theorem de_dic0M : DE X W (.Dict [] [] pos) dDic0M := pe_imp pe_dnewK fun σ H Q u => by
  obtain ⟨F, ρ, O, Qd, Ed, ok, env, td, k, xr⟩ := u
  intro p hp
  exact k _ _ F _ _ (Same.refl F) (.ref p) (ok.layM (m := .dic []) hp ⟨[], upd_same, .nil⟩) (td p (ok.freeO hp))
def keyD : D → Option Key
  | .int i => some (.inl i)
  | .str x => some (.inr x)
  | _ => none
theorem keyD_rep {K : PySem.W.Frag} {F : Hp} {d : D} {v : V} (r : Rep K F d v) {k : Key} (h : keyD d = some k) : v = kV k := by
  cases r with
  | int i => cases h; rfl
  | str i => cases h; rfl
  | _ => cases h
/-- {k: v} -/
def dDic1 (tk tv : TD) : TD := fun ρ O Q E => ∀ a, O a = none → tk ρ (updO O a (.dic [])) (fun x O1 => tv ρ O1 (fun y O2 => O2 a = some (.dic []) ∧ ∃ k O3, keyD x = some k ∧ Sub O3 O2 ∧ O3 a = none ∧ Q (.dic [(k, y)]) O3) E) E
theorem de_dic1 {tk tv : TD} (hk : DE X W a tk) (hv : DE X W b tv) : DE X W (.Dict [some a] [b] pos) (dDic1 tk tv) := pe_imp (pe_disp (pps_cons hk hv pps_nil) rfl rfl (fun z => by cases z) (by show 1 ≤ 15; decide)) fun σ H Q u => by
  obtain ⟨F, ρ, O, Qd, Ed, ok, env, td, k, xr⟩ := u
  intro p hp
  have okp : OkS X.K (upd H p (.dK [])) F (updO O p (.dic [])) := ok.layM hp ⟨[], upd_same, .nil⟩
  refine ⟨F, ρ, _, _, Ed, okp, env, td p (ok.freeO hp), fun v1 H1 F1 d1 O1 e1 r1 ok1 q1 => ?_, xr⟩
  refine ⟨F1, ρ, O1, _, Ed, ok1, env.mono e1, q1, fun v2 H2 F2 d2 O2 e2 r2 ok2 ⟨h1, kk, O3, h2, h3, h4, q2⟩ => ?_, xr.mono e1⟩
  obtain ⟨fp, kvs, hH, rk⟩ := ok2.own p _ h1
  cases rk
  refine ⟨hH, [(kk, v2)], ?_, (by show 1 ≤ 15; decide), ?_⟩
  · rw [keyD_rep r1 h2]; rfl
  have e3 : Same F2 (upd F2 p (.dK [(kk, v2)])) := fun b u h => by rw [upd_ne (ne_of_none h fp)]; exact h
  refine k _ _ (upd F2 p (.dK [(kk, v2)])) _ O3 ((e1.trans e2).trans e3) (.dic upd_same (.cons (r2.mono e3) .nil)) ⟨fun b u h => ?_, fun b m h => ?_⟩ q2
  · show upd H2 p _ b = _
    by_cases hb : b = p
    · subst hb; rw [upd_same] at h ⊢; exact h
    · rw [upd_ne hb] at h ⊢; exact ok2.ex b u h
  · have ne : b ≠ p := fun z => by rw [z, h4] at h; cases h
    obtain ⟨g1, g2⟩ := ok2.own b m (h3 b m h)
    exact ⟨by rw [upd_ne ne]; exact g1, g2.mono e3 (upd_ne ne)⟩
end
end Dx
namespace Dx
open PySem L2
section
variable {K : PySem.W.Frag}
/-- a list that stands in the tracked heap -/
def trkD (O : DH) : D → Option (List D)
  | .lst ds => some ds
  | .ref a => match O a with
    | some (.lst ds) => some ds
    | _ => none
  | _ => none
theorem trkD_rep {H F : Hp} {O : DH} (k : OkS K H F O) {d : D} {v : V} (r : Rep K F d v) {ds : List D} (h : trkD O d = some ds) : ∃ a xs, v = .ref a ∧ H a = some (.lst xs) ∧ RepA K F ds xs := by
  cases r with
  | lst h1 h2 => cases h; exact ⟨_, _, rfl, k.ex _ _ h1, h2⟩
  | ref a =>
    unfold trkD at h
    simp only at h
    split at h
    · next ds' e =>
      cases h
      obtain ⟨xs, h1, h2⟩ := k.lst e
      exact ⟨a, xs, rfl, h1, h2⟩
    · cases h
  | _ => cases h
/-! ### operators, one rule for all kinds -/
def fAdd : FD2 := fun O x y Q => match x, y with
  | .int i, .int j => Q (.int (i + j))
  | .str a, .str b => a.length + b.length ≤ sizeLine ∧ Q (.str (a ++ b))
  | .tup a, .tup b => a.length + b.length ≤ sizeLine ∧ Q (.tup (a ++ b))
  | x, y => match trkD O x, trkD O y with
    | some a, some b => a.length + b.length ≤ sizeLine ∧ Q (.lst (a ++ b))
    | _, _ => False
abbrev rAdd4 (K : PySem.W.Frag) : R2 := fun x y H Q => rI0 (fun i j => .int (i + j)) x y H Q ∨ (∃ i j, x = .str i ∧ y = .str j ∧ i.length + j.length ≤ sizeLine ∧ Q (.str (i ++ j)) H) ∨ rCatA K x y H Q ∨ rCat x y H Q
theorem op_add4 {X : Cx} : OpR X (binaryOp .Add) (rAdd4 X.K) := op_add.or (op_add_str.or (op_catA.or op_cat))
theorem RepA.nil_iff {F : Hp} {ds : List D} {xs : List V} (r : RepA K F ds xs) : ds = [] ↔ xs = [] := by cases r <;> simp
theorem o2_add : Op2 K (rAdd4 K) fAdd := fun H F O dx dy x y Qd Q ok rx ry q k => by
  unfold fAdd at q
  split at q
  · cases rx; cases ry
    exact .inl ⟨_, _, rfl, rfl, k _ H F _ (Same.refl F) (.int _) ok q⟩
  · cases rx; cases ry
    exact .inr (.inl ⟨_, _, rfl, rfl, q.1, k _ H F _ (Same.refl F) (.str _) ok q.2⟩)
  · cases rx with
    | tup h1 h2 =>
      cases ry with
      | tup h3 h4 =>
        refine .inr (.inr (.inl ?_))
        refine ⟨_, _, _, _, rfl, rfl, same_sqt ok.ex h1, same_sqt ok.ex h3, by rw [← h2.length, ← h4.length]; exact q.1, ?_⟩
        have fin : ∀ v, Rep K F (.tup _) v → Q v H := fun v r => k v H F _ (Same.refl F) r ok q.2
        refine ⟨fun e1 => ?_, fun e1 e2 => ?_, fun e1 e2 p hp => ?_⟩
        · have := h2.nil_iff.mpr e1; subst this; exact fin _ (.tup h3 h4)
        · have := h4.nil_iff.mpr e2; subst this; exact fin _ (by rw [List.append_nil]; exact .tup h1 h2)
        · obtain ⟨ok2, e⟩ := ok.lay hp (.tup _)
          exact k _ _ _ _ e (.tup (.inl (.inl upd_same)) ((h2.append h4).mono e)) ok2 q.2
  · split at q
    · next e1 e2 =>
      obtain ⟨a, xs, rfl, h1, h2⟩ := trkD_rep ok rx e1
      obtain ⟨b, ys, rfl, h3, h4⟩ := trkD_rep ok ry e2
      refine .inr (.inr (.inr ⟨_, _, _, _, rfl, rfl, h1, h3, by rw [← h2.length, ← h4.length]; exact q.1, fun p hp => ?_⟩))
      obtain ⟨ok2, e⟩ := ok.lay hp (.lst _)
      exact k _ _ _ _ e (.lst upd_same ((h2.append h4).mono e)) ok2 q.2
    · exact q.elim
def fSub : FD2 := fI0 fun i j => .int (i - j)
theorem o2_sub : Op2 K (rI0 fun i j => .int (i - j)) fSub := o2_I0 fun _ _ _ => .int _
def fMulI : FD2 := fI CMulW fun i j => .int (i * j)
theorem o2_mulI : Op2 K (rI CMulW fun i j => .int (i * j)) fMulI := o2_I fun _ _ _ => .int _
def CM (i j : Int) : Prop := CMul i j ∨ CMulW i j
theorem op_mulCM {X : Cx} : OpR X (binaryOp .Mult) (rI CM fun i j => .int (i * j)) := fun pins s σ H x y v u Q I rx ry h => by
  obtain ⟨i, j, e1, e2, c, q⟩ := h
  rcases c with c | c
  · exact op_mul pins s σ H x y v u Q I rx ry ⟨i, j, e1, e2, c, q⟩
  · exact op_mulW pins s σ H x y v u Q I rx ry ⟨i, j, e1, e2, c, q⟩
def repD (n : Nat) (ds : List D) : List D := (List.replicate n ds).flatten
theorem RepA.rep {F : Hp} {ds : List D} {xs : List V} (r : RepA K F ds xs) : ∀ n, RepA K F (repD n ds) (List.replicate n xs).flatten
  | 0 => .nil
  | n + 1 => by
    unfold repD
    rw [List.replicate_succ, List.replicate_succ, List.flatten_cons, List.flatten_cons]
    exact r.append (RepA.rep r n)
/-- a list, a text, an int times an int -/
def fMul : FD2 := fun O x y Q => match y with
  | .int j => match x with
    | .int i => CM i j ∧ Q (.int (i * j))
    | .str a => MulOk a j ∧ Q (.str (PySem.Txt.mul a j))
    | x => match trkD O x with
      | some ds => -(2 ^ 63) ≤ j ∧ j < 2 ^ 63 ∧ ds.length * j.toNat ≤ sizeLine ∧ Q (.lst (repD j.toNat ds))
      | none => False
  | _ => False
abbrev rMul3 : R2 := fun x y H Q => rI CM (fun i j => .int (i * j)) x y H Q ∨ (∃ a j, x = .str a ∧ y = .int j ∧ MulOk a j ∧ Q (.str (PySem.Txt.mul a j)) H) ∨ rRep x y H Q
theorem op_mulS {X : Cx} : OpR X (binaryOp .Mult) (fun x y H Q => ∃ a j, x = .str a ∧ y = .int j ∧ MulOk a j ∧ Q (.str (PySem.Txt.mul a j)) H) := by
  intro pins s σ H x y v u Q I rx ry h
  obtain ⟨a, j, rfl, rfl, hz, q⟩ := h
  obtain ⟨t, rfl⟩ := rx
  obtain ⟨t', rfl⟩ := ry
  exact PySem.SB.mul hz fun t2 k => ⟨.str _, H, I.tok _, ⟨_, rfl⟩, q⟩
theorem op_mul3 {X : Cx} : OpR X (binaryOp .Mult) rMul3 := op_mulCM.or (op_mulS.or op_rep)
theorem o2_mul : Op2 K rMul3 fMul := fun H F O dx dy x y Qd Q ok rx ry q k => by
  unfold fMul at q
  split at q
  · cases ry
    split at q
    · cases rx
      exact .inl ⟨_, _, rfl, rfl, q.1, k _ H F _ (Same.refl F) (.int _) ok q.2⟩
    · cases rx
      exact .inr (.inl ⟨_, _, rfl, rfl, q.1, k _ H F _ (Same.refl F) (.str _) ok q.2⟩)
    · split at q
      · next e1 =>
        obtain ⟨a, xs, rfl, h1, h2⟩ := trkD_rep ok rx e1
        refine .inr (.inr ⟨_, _, _, rfl, rfl, h1, q.1, q.2.1, by rw [← h2.length]; exact q.2.2.1, fun p hp => ?_⟩)
        obtain ⟨ok2, e⟩ := ok.lay hp (.lst _)
        exact k _ _ _ _ e (.lst upd_same ((h2.rep _).mono e)) ok2 q.2.2.2
      · exact q.elim
  · exact q.elim
/-- %, // by a number that is not 0 -/
def fMod : FD2 := fI (fun _ j => j ≠ 0) fun i j => .int (i.fmod j)
theorem o2_mod : Op2 K (rI (fun _ j => j ≠ 0) fun i j => .int (i.fmod j)) fMod := o2_I fun _ _ _ => .int _
abbrev CFd (i j : Int) : Prop := CDivN i j ∨ CDivW i j
abbrev rFd : R2 := fun x y H Q => rI CDivN (fun i j => .int (i.fdiv j)) x y H Q ∨ rI CDivW (fun i j => .int (i / j)) x y H Q
theorem op_fd {X : Cx} : OpR X (binaryOp .FloorDiv) rFd := op_fdivN.or op_fdivW
def fFd : FD2 := fI CFd fun i j => .int (i.fdiv j)
theorem o2_fd : Op2 K rFd fFd := fun H F O dx dy x y Qd Q ok rx ry q k => by
  unfold fFd fI at q
  split at q
  · next i j =>
    cases rx; cases ry
    rcases q.1 with c | c
    · exact .inl ⟨_, _, rfl, rfl, c, k _ H F _ (Same.refl F) (.int _) ok q.2⟩
    · refine .inr ⟨_, _, rfl, rfl, c, ?_⟩
      show Q (.int (i / j)) H
      rw [← Int.fdiv_eq_ediv_of_nonneg _ (Int.le_of_lt c.1)]
      exact k _ H F _ (Same.refl F) (.int _) ok q.2
  · exact q.elim
def fPow : FD2 := fI CPow fun i j => .int (i ^ j.toNat)
theorem o2_pow : Op2 K (rI CPow fun i j => .int (i ^ j.toNat)) fPow := o2_I fun _ _ _ => .int _
def fNeg : D → (D → Prop) → Prop := fU fun i => .int (-i)
theorem o1_neg : Op1 K (rU fun i => .int (-i)) fNeg := o1_U fun _ _ => .int _
/-! ### comparisons of ints -/
def fLt : FD2 := fI0 fun i j => .bl (decide (i < j))
def fLe : FD2 := fI0 fun i j => .bl (decide (i ≤ j))
def fGt : FD2 := fI0 fun i j => .bl (decide (j < i))
def fGe : FD2 := fI0 fun i j => .bl (decide (j ≤ i))
theorem o2_lt : Op2 K (rI0 fun i j => .bl (decide (i < j))) fLt := o2_I0 fun _ _ _ => .bl _
theorem o2_le : Op2 K (rI0 fun i j => .bl (decide (i ≤ j))) fLe := o2_I0 fun _ _ _ => .bl _
theorem o2_gt : Op2 K (rI0 fun i j => .bl (decide (j < i))) fGt := o2_I0 fun _ _ _ => .bl _
theorem o2_ge : Op2 K (rI0 fun i j => .bl (decide (j ≤ i))) fGe := o2_I0 fun _ _ _ => .bl _
end
/-! ### slices -/
abbrev TDO := DEnv → DH → (Option Int → DH → Prop) → XD → Prop
def upO (K : PySem.W.Frag) (W : WX) (td : TDO) : TO := fun σ H Q => ∃ F ρ O Qd Ed, OkS K H F O ∧ EnvOk K F σ ρ ∧ td ρ O Qd Ed ∧ (∀ b H' F' O', Same F F' → OkS K H' F' O' → Qd b O' → Q b H') ∧ XRel K W F σ Ed
abbrev DO (X : Cx) (W : WX) (e : Option Expr) (td : TDO) : Prop := PO X e (upO X.K W td)
theorem po_imp {X : Cx} {e : Option Expr} {te te' : TO} (h : PO X e te) (i : ∀ σ H Q, te' σ H Q → te σ H Q) : PO X e te' := ⟨fun pins s σ H Q I hw => h.run pins s σ H Q I (i σ H Q hw)⟩
def dNoP : TDO := fun _ O Q _ => Q none O
def dPart (t : TD) : TDO := fun ρ O Q E => t ρ O (fun d O1 => match d with
  | .int i => Q (some i) O1
  | _ => False) E
section
variable {X : Cx} {W : WX} {e : Expr} {ta : TD} {tl th : TDO} {lo hi : Option Expr} {pos p2 : Pos}
theorem do_none : DO X W none dNoP := po_imp po_none fun σ H Q u => by
  obtain ⟨F, ρ, O, Qd, Ed, ok, env, td, k, xr⟩ := u
  exact k _ H F O (Same.refl F) ok td
theorem do_some (h : DE X W e ta) : DO X W (some e) (dPart ta) := po_imp (po_some h) fun σ H Q u => by
  obtain ⟨F, ρ, O, Qd, Ed, ok, env, td, k, xr⟩ := u
  refine ⟨F, ρ, O, _, Ed, ok, env, td, fun v H1 F1 d O1 e1 r1 ok1 q1 => ?_, xr⟩
  split at q1
  · cases r1
    exact ⟨_, rfl, k _ H1 F1 O1 e1 ok1 q1⟩
  · exact q1.elim
def cutD (ds : List D) (lo hi : Option Int) : List D := (ds.drop (HT.sIx ds.length 0 lo)).take (HT.sIx ds.length ds.length hi - HT.sIx ds.length 0 lo)
theorem RepA.cut {K : PySem.W.Frag} {F : Hp} {ds : List D} {xs : List V} (r : RepA K F ds xs) (lo hi : Option Int) : RepA K F (cutD ds lo hi) (cutV xs lo hi) := by
  unfold cutD cutV
  rw [← r.length]
  exact (r.drop _).take _
theorem cut_whole {ds : List D} {lo hi : Option Int} (h : HT.sIx ds.length 0 lo = 0 ∧ HT.sIx ds.length ds.length hi = ds.length) : cutD ds lo hi = ds := by
  unfold cutD
  rw [h.1, h.2]
  simp
def fSl (O : DH) (x : D) (lo hi : Option Int) (Q : D → Prop) : Prop := match x with
  | .str z => z.length ≤ sizeLine ∧ Q (.str (cutS z lo hi))
  | .tup ds => Q (.tup (cutD ds lo hi))
  | x => match itemsL O x with
    | some ds => Q (.lst (cutD ds lo hi))
    | none => False
def dSl (ta : TD) (tl th : TDO) : TD := fun ρ O Q E => ta ρ O (fun x O1 => tl ρ O1 (fun l O2 => th ρ O2 (fun h O3 => fSl O3 x l h fun z => Q z O3) E) E) E
abbrev rSl3 (K : PySem.W.Frag) : V → Option Int → Option Int → Hp → VK → Prop := fun x lo hi H Q => rSlS x lo hi H Q ∨ rSlA K x lo hi H Q ∨ rSlL K x lo hi H Q
theorem de_sl (he : DE X W e ta) (hl : DO X W lo tl) (hh : DO X W hi th) : DE X W (.Subscript e (.Slice lo hi none p2) pos) (dSl ta tl th) :=
  pe_imp (pe_slice (r := rSl3 X.K) (sl_str.or (sl_tupA.or sl_list)) he hl hh) fun σ H Q u => by
    obtain ⟨F, ρ, O, Qd, Ed, ok, env, td, k, xr⟩ := u
    refine ⟨F, ρ, O, _, Ed, ok, env, td, fun v H1 F1 d O1 e1 r1 ok1 q1 => ?_, xr⟩
    refine ⟨F1, ρ, O1, _, Ed, ok1, env.mono e1, q1, fun l H2 F2 O2 e2 ok2 q2 => ?_, xr.mono e1⟩
    refine ⟨F2, ρ, O2, _, Ed, ok2, env.mono (e1.trans e2), q2, fun h H3 F3 O3 e3 ok3 q3 => ?_, xr.mono (e1.trans e2)⟩
    have r3 := r1.mono (e2.trans e3)
    have e := (e1.trans e2).trans e3
    unfold fSl at q3
    split at q3
    · cases r3
      exact .inl ⟨_, rfl, q3.1, k _ H3 F3 _ O3 e (.str _) ok3 q3.2⟩
    · cases r3 with
      | tup h1 h2 =>
        refine .inr (.inl ⟨_, _, rfl, same_sqt ok3.ex h1, fun hw => ?_, fun hw p hp => ?_⟩)
        · rw [← h2.length] at hw
          rw [cut_whole hw] at q3
          exact k _ H3 F3 _ O3 e (.tup h1 h2) ok3 q3
        · obtain ⟨ok4, e4⟩ := ok3.lay hp (.tup _)
          exact k _ _ _ _ O3 (e.trans e4) (.tup (.inl (.inl upd_same)) ((h2.cut l h).mono e4)) ok4 q3
    · split at q3
      · next e1 =>
        obtain ⟨a, xs, rfl, h1, h2⟩ := itemsL_rep ok3 r3 e1
        refine .inr (.inr ⟨_, _, rfl, h1, fun p hp => ?_⟩)
        obtain ⟨ok4, e4⟩ := ok3.lay hp (.lst _)
        exact k _ _ _ _ O3 (e.trans e4) (.lst upd_same ((h2.cut l h).mono e4)) ok4 q3
      · exact q3.elim
/-! ### calls of built-ins -/
abbrev FC := DH → List D → (D → Prop) → Prop
def dCB (f : FC) (tr : TDA) : TD := fun ρ O Q E => tr ρ O (fun ds O1 => f O1 ds fun z => Q z O1) E
def CallD (K : PySem.W.Frag) (r : List V → Hp → VK → Prop) (f : FC) : Prop := ∀ (H F : Hp) (O : DH) (ds : List D) (vs : List V) (Qd : D → Prop) (Q : VK), OkS K H F O → RepA K F ds vs → f O ds Qd →
  (∀ v H' F' d, Same F F' → Rep K F' d v → OkS K H' F' O → Qd d → Q v H') → r vs H Q
theorem up_cb {K : PySem.W.Frag} {r : List V → Hp → VK → Prop} {f : FC} {tr : TDA} (h : CallD K r f) : ∀ σ H Q, up K W (dCB f tr) σ H Q → tCB r (upA K W tr) σ H Q := fun σ H Q u => by
  obtain ⟨F, ρ, O, Qd, Ed, ok, env, td, k, xr⟩ := u
  refine ⟨F, ρ, O, _, Ed, ok, env, td, fun vs H1 F1 ds O1 e1 r1 ok1 q1 => ?_, xr⟩
  exact h H1 F1 O1 ds vs _ Q ok1 r1 q1 fun v H2 F2 d e2 r2 ok2 q2 => k v H2 F2 d O1 (e1.trans e2) r2 ok2 q2
variable {x : Str} {id T : String} {r : List V → Hp → VK → Prop} {f : FC} {tr : TDA} {es : List Expr} {p : Pos}
theorem de_cb (hc : CallR X (.builtin id) r) (h : CallD X.K r f) (hg : Gl X x) (hm : X.mg x = none) (hv : bootBuiltins x = some (.builtin id)) (ha : DA X W (e :: es) tr) (hn : x ≠ "__name__" := by decide) (hdb : (x == ("__debug__" : Str)) = false := by decide)
    (he : starEach (e :: es) X.env = (false, eval e X.env) :: starEach es X.env := by rfl) (hpl : (backTo pos (starEach es X.env)).any (·.1) = false := by rfl) : DE X W (.Call (.Name x p) (e :: es) [] pos) (dCB f tr) :=
  pe_imp (pe_callB hc hg hm hv ha hn hdb he hpl) (up_cb h)
theorem de_ct (hc : CallR X (.type T) r) (h : CallD X.K r f) (hg : Gl X x) (hm : X.mg x = none) (hv : bootBuiltins x = some (.type T)) (ha : DA X W (e :: es) tr) (hn : x ≠ "__name__" := by decide) (hdb : (x == ("__debug__" : Str)) = false := by decide)
    (he : starEach (e :: es) X.env = (false, eval e X.env) :: starEach es X.env := by rfl) (hpl : (backTo pos (starEach es X.env)).any (·.1) = false := by rfl) : DE X W (.Call (.Name x p) (e :: es) [] pos) (dCB f tr) :=
  pe_imp (pe_callTy hc hg hm hv ha hn hdb he hpl) (up_cb h)
end
section
variable {K : PySem.W.Frag} {X : Cx}
/-! #### len, int, bool, abs, str, tuple, list, max, min -/
def lenD (O : DH) : D → Option Nat
  | .str z => if z.length ≤ sizeLine then some z.length else none
  | .dic ks => some ks.length
  | d => (items O d).map List.length
def fLen : FC := fun O ds Q => match ds with
  | [x] => match lenD O x with
    | some n => Q (.int n)
    | none => False
  | _ => False
theorem RepK.length {F : Hp} : ∀ {ds : List (Key × D)} {vs : List (Key × V)}, RepK K F ds vs → ds.length = vs.length
  | _, _, .nil => rfl
  | _, _, .cons _ r => by rw [List.length_cons, List.length_cons, RepK.length r]
abbrev rLen3 (K : PySem.W.Frag) : List V → Hp → VK → Prop := fun xs H Q => (∃ x n, xs = [x] ∧ LenV K x H n ∧ Q (.int n) H) ∨ (∃ d kvs, xs = [.ref d] ∧ H d = some (.dK kvs) ∧ Q (.int kvs.length) H)
theorem RepA.one {F : Hp} {x : D} {vs : List V} (r : RepA K F [x] vs) : ∃ v, vs = [v] ∧ Rep K F x v := by
  cases r with
  | cons h t => cases t; exact ⟨_, rfl, h⟩
theorem RepA.two {F : Hp} {x y : D} {vs : List V} (r : RepA K F [x, y] vs) : ∃ v w, vs = [v, w] ∧ Rep K F x v ∧ Rep K F y w := by
  cases r with
  | cons h t => obtain ⟨w, rfl, h2⟩ := t.one; exact ⟨_, _, rfl, h, h2⟩
theorem cd_len : CallD K (rLen3 K) fLen := fun H F O ds vs Qd Q ok ra q k => by
  unfold fLen at q
  split at q
  · next x =>
    obtain ⟨v, rfl, r⟩ := ra.one
    split at q
    · next n hn =>
      have fin : Q (.int n) H := k _ H F _ (Same.refl F) (.int _) ok q
      have gen : (items O x).map List.length = some n → rLen3 K [v] H Q := fun h => by
        cases hi : items O x with
        | none => rw [hi] at h; cases h
        | some ds =>
          rw [hi] at h
          obtain rfl : ds.length = n := Option.some.inj h
          obtain ⟨a, xs, rfl, hs, ra⟩ := items_rep ok r hi
          refine .inl ⟨.ref a, xs.length, rfl, ?_, by rw [← ra.length]; exact fin⟩
          rcases hs with hs | hs
          · exact .inl ⟨xs, hs, rfl⟩
          · exact .inr ⟨xs, hs, rfl⟩
      cases r with
      | str z =>
        have hn' : (if z.length ≤ sizeLine then some z.length else none) = some n := hn
        by_cases hz : z.length ≤ sizeLine
        · rw [if_pos hz] at hn'; cases hn'
          exact .inl ⟨.str z, _, rfl, ⟨hz, rfl⟩, fin⟩
        · rw [if_neg hz] at hn'; cases hn'
      | dic h1 h2 =>
        obtain rfl : _ = n := Option.some.inj hn
        exact .inr ⟨_, _, rfl, ok.ex _ _ h1, by rw [← h2.length]; exact fin⟩
      | _ => exact gen hn
    · exact q.elim
  · exact q.elim
def fInt : FC := fun _ ds Q => match ds with
  | [.int i] => Q (.int i)
  | [.bl b] => Q (.int (if b then 1 else 0))
  | _ => False
theorem cd_int : CallD K (fun xs H Q => (∃ i, xs = [.int i] ∧ Q (.int i) H) ∨ ∃ k, xs = [.bl k] ∧ Q (.int (if k then 1 else 0)) H) fInt := fun H F O ds vs Qd Q ok ra q k => by
  unfold fInt at q
  split at q
  · obtain ⟨v, rfl, r⟩ := ra.one
    cases r
    exact .inl ⟨_, rfl, k _ H F _ (Same.refl F) (.int _) ok q⟩
  · obtain ⟨v, rfl, r⟩ := ra.one
    cases r
    exact .inr ⟨_, rfl, k _ H F _ (Same.refl F) (.int _) ok q⟩
  · exact q.elim
def fAbs : FC := fun _ ds Q => match ds with
  | [.int i] => Q (.int (if i < 0 then -i else i))
  | _ => False
theorem cd_abs : CallD K (fun xs H Q => ∃ i, xs = [.int i] ∧ Q (.int (if i < 0 then -i else i)) H) fAbs := fun H F O ds vs Qd Q ok ra q k => by
  unfold fAbs at q
  split at q
  · obtain ⟨v, rfl, r⟩ := ra.one
    cases r
    exact ⟨_, rfl, k _ H F _ (Same.refl F) (.int _) ok q⟩
  · exact q.elim
def fMax2 : FC := fun _ ds Q => match ds with
  | [.int i, .int j] => Q (.int (if j > i then j else i))
  | _ => False
theorem cd_max2 : CallD K (fun xs H Q => ∃ i j, xs = [.int i, .int j] ∧ Q (.int (if j > i then j else i)) H) fMax2 := fun H F O ds vs Qd Q ok ra q k => by
  unfold fMax2 at q
  split at q
  · obtain ⟨v, w, rfl, r, r2⟩ := ra.two
    cases r; cases r2
    exact ⟨_, _, rfl, k _ H F _ (Same.refl F) (.int _) ok q⟩
  · exact q.elim
def fMin2 : FC := fun _ ds Q => match ds with
  | [.int i, .int j] => Q (.int (if j < i then j else i))
  | _ => False
theorem cd_min2 : CallD K (fun xs H Q => ∃ i j, xs = [.int i, .int j] ∧ Q (.int (if j < i then j else i)) H) fMin2 := fun H F O ds vs Qd Q ok ra q k => by
  unfold fMin2 at q
  split at q
  · obtain ⟨v, w, rfl, r, r2⟩ := ra.two
    cases r; cases r2
    exact ⟨_, _, rfl, k _ H F _ (Same.refl F) (.int _) ok q⟩
  · exact q.elim
def fStr : FC := fun _ ds Q => match ds with
  | [.int i] => i.natAbs.log2 < 1920 ∧ Q (.str (toString i))
  | [.str x] => Q (.str x)
  | _ => False
theorem call_str2 : CallR X (.type "str") (fun xs H Q => (∃ i, xs = [.int i] ∧ i.natAbs.log2 < 1920 ∧ Q (.str (toString i)) H) ∨ (∃ a, xs = [.str a] ∧ Q (.str a) H)) := call_str_int.or SkE.call_str_str
theorem cd_str : CallD K (fun xs H Q => (∃ i, xs = [.int i] ∧ i.natAbs.log2 < 1920 ∧ Q (.str (toString i)) H) ∨ (∃ a, xs = [.str a] ∧ Q (.str a) H)) fStr := fun H F O ds vs Qd Q ok ra q k => by
  unfold fStr at q
  split at q
  · obtain ⟨v, rfl, r⟩ := ra.one
    cases r
    exact .inl ⟨_, rfl, q.1, k _ H F _ (Same.refl F) (.str _) ok q.2⟩
  · obtain ⟨v, rfl, r⟩ := ra.one
    cases r
    exact .inr ⟨_, rfl, k _ H F _ (Same.refl F) (.str _) ok q⟩
  · exact q.elim
def fTuple : FC := fun O ds Q => match ds with
  | [x] => match items O x with
    | some ds => Q (.tup ds)
    | none => False
  | _ => False
theorem cd_tuple : CallD K (fun xs H Q => ∃ p ys, xs = [.ref p] ∧ ((SqL K H p ys ∧ ∀ l, H l = none → Q (.ref l) (upd H l (.tup ys))) ∨ (SqT K H p ys ∧ Q (.ref p) H))) fTuple := fun H F O ds vs Qd Q ok ra q k => by
  unfold fTuple at q
  split at q
  · obtain ⟨v, rfl, r⟩ := ra.one
    clear ra
    split at q
    · next es he =>
      have byL : ∀ a xs, v = .ref a → SqL K H a xs → RepA K F es xs → ∃ p ys, [v] = [V.ref p] ∧ ((SqL K H p ys ∧ ∀ l, H l = none → Q (.ref l) (upd H l (.tup ys))) ∨ (SqT K H p ys ∧ Q (.ref p) H)) := fun a xs e hs ra => by
        subst e
        refine ⟨a, xs, rfl, .inl ⟨hs, fun l hl => ?_⟩⟩
        obtain ⟨ok2, e2⟩ := ok.lay hl (.tup xs)
        exact k _ _ _ _ e2 (.tup (.inl (.inl upd_same)) (ra.mono e2)) ok2 q
      cases r with
      | tup h1 h2 =>
        obtain rfl := Option.some.inj he
        exact ⟨_, _, rfl, .inr ⟨same_sqt ok.ex h1, k _ H F _ (Same.refl F) (.tup h1 h2) ok q⟩⟩
      | lst h1 h2 => obtain ⟨a, xs, e, hs, ra⟩ := itemsL_rep ok (.lst h1 h2) he; exact byL a xs e hs ra
      | wl h1 h2 => obtain ⟨a, xs, e, hs, ra⟩ := itemsL_rep ok (.wl h1 h2) he; exact byL a xs e hs ra
      | ref b => obtain ⟨a, xs, e, hs, ra⟩ := itemsL_rep ok (.ref b) he; exact byL a xs e hs ra
      | _ => cases he
    · exact q.elim
  · exact q.elim
/-- list(x), told as what it holds -/
def fList : FC := fun O ds Q => match ds with
  | [x] => match items O x with
    | some ds => Q (.lst ds)
    | none => False
  | _ => False
theorem cd_list : CallD K (fun xs H Q => ∃ p ys, xs = [.ref p] ∧ (SqL K H p ys ∨ SqT K H p ys) ∧ ∀ l, H l = none → Q (.ref l) (upd H l (.lst ys))) fList := fun H F O ds vs Qd Q ok ra q k => by
  unfold fList at q
  split at q
  · obtain ⟨v, rfl, r⟩ := ra.one
    split at q
    · next es he =>
      obtain ⟨a, xs, rfl, hs, ra⟩ := items_rep ok r he
      refine ⟨a, xs, rfl, hs, fun l hl => ?_⟩
      obtain ⟨ok2, e2⟩ := ok.lay hl (.lst xs)
      exact k _ _ _ _ e2 (.lst upd_same (ra.mono e2)) ok2 q
    · exact q.elim
  · exact q.elim
/-! #### sums, all, any -/
def intsD : List D → Option (List Int)
  | [] => some []
  | .int i :: r => (intsD r).map (i :: ·)
  | _ => none
theorem intsD_rep {F : Hp} : ∀ {ds : List D} {xs : List V} {ns : List Int}, RepA K F ds xs → intsD ds = some ns → xs = ns.map V.int
  | [], _, ns, .nil, h => by cases h; rfl
  | d :: ds, _, ns, .cons (v := v) hd hr, h => by
    cases d with
    | int i =>
      cases hd
      unfold intsD at h
      cases h2 : intsD ds with
      | none => rw [h2] at h; cases h
      | some ms =>
        rw [h2] at h
        cases h
        rw [intsD_rep hr h2]
        rfl
    | _ => cases h
theorem intsD_map (ns : List Int) : intsD (ns.map D.int) = some ns := by
  induction ns with
  | nil => rfl
  | cons n r ih => rw [List.map_cons]; unfold intsD; rw [ih]; rfl
def blsD : List D → Option (List Bool)
  | [] => some []
  | .bl i :: r => (blsD r).map (i :: ·)
  | _ => none
theorem blsD_rep {F : Hp} : ∀ {ds : List D} {xs : List V} {ns : List Bool}, RepA K F ds xs → blsD ds = some ns → xs = ns.map V.bl
  | [], _, ns, .nil, h => by cases h; rfl
  | d :: ds, _, ns, .cons (v := v) hd hr, h => by
    cases d with
    | bl i =>
      cases hd
      unfold blsD at h
      cases h2 : blsD ds with
      | none => rw [h2] at h; cases h
      | some ms =>
        rw [h2] at h
        cases h
        rw [blsD_rep hr h2]
        rfl
    | _ => cases h
theorem blsD_map (ns : List Bool) : blsD (ns.map D.bl) = some ns := by
  induction ns with
  | nil => rfl
  | cons n r ih => rw [List.map_cons]; unfold blsD; rw [ih]; rfl
def fAll : FC := fun O ds Q => match ds with
  | [x] => match (itemsL O x).bind blsD with
    | some bs => Q (.bl (bs.all id))
    | none => False
  | _ => False
theorem cd_all : CallD K (rAll K) fAll := fun H F O ds vs Qd Q ok ra q k => by
  unfold fAll at q
  split at q
  · obtain ⟨v, rfl, r⟩ := ra.one
    split at q
    · next bs h =>
      obtain ⟨es, h1, h2⟩ := Option.bind_eq_some_iff.mp h
      obtain ⟨a, xs, rfl, hs, ra⟩ := itemsL_rep ok r h1
      exact ⟨a, bs, rfl, by rw [← blsD_rep ra h2]; exact hs, k _ H F _ (Same.refl F) (.bl _) ok q⟩
    · exact q.elim
  · exact q.elim
def fAny : FC := fun O ds Q => match ds with
  | [x] => match (itemsL O x).bind blsD with
    | some bs => Q (.bl (bs.any id))
    | none => False
  | _ => False
theorem cd_any : CallD K (rAny K) fAny := fun H F O ds vs Qd Q ok ra q k => by
  unfold fAny at q
  split at q
  · obtain ⟨v, rfl, r⟩ := ra.one
    split at q
    · next bs h =>
      obtain ⟨es, h1, h2⟩ := Option.bind_eq_some_iff.mp h
      obtain ⟨a, xs, rfl, hs, ra⟩ := itemsL_rep ok r h1
      exact ⟨a, bs, rfl, by rw [← blsD_rep ra h2]; exact hs, k _ H F _ (Same.refl F) (.bl _) ok q⟩
    · exact q.elim
  · exact q.elim
def fSum : FC := fun O ds Q => match ds with
  | [x] => match (itemsL O x).bind intsD with
    | some ns => Q (.int ns.sum)
    | none => False
  | _ => False
theorem cd_sum : CallD K (rSum K) fSum := fun H F O ds vs Qd Q ok ra q k => by
  unfold fSum at q
  split at q
  · obtain ⟨v, rfl, r⟩ := ra.one
    split at q
    · next ns h =>
      obtain ⟨es, h1, h2⟩ := Option.bind_eq_some_iff.mp h
      obtain ⟨a, xs, rfl, hs, ra⟩ := itemsL_rep ok r h1
      exact ⟨a, ns, rfl, by rw [← intsD_rep ra h2]; exact hs, k _ H F _ (Same.refl F) (.int _) ok q⟩
    · exact q.elim
  · exact q.elim
/-! #### repr -/
def fRepr : FC := fun O ds Q => match ds with
  | [x] => match shown? O x with
    | some p => p.showable = true ∧ p.hasDict = false ∧ p.depth ≤ 100 ∧ p.shown.length ≤ sizeLine ∧ Q (.str p.shown)
    | none => False
  | _ => False
def rRepr (K : PySem.W.Frag) : List V → Hp → VK → Prop := fun xs H Q => ∃ v p, xs = [v] ∧ Dp K H v p ∧ p.showable = true ∧ p.hasDict = false ∧ p.depth ≤ 100 ∧ p.shown.length ≤ sizeLine ∧ Q (.str p.shown) H
theorem call_repr (hg : X.A.guards = some []) {k : Nat} (hr : Room k X.A) : CallR X (.builtin "repr") (rRepr X.K) := by
  intro pins s σ H xs us Q I r h
  obtain ⟨v, p, rfl, hd, hs, hn, hp, hz, q⟩ := h
  obtain ⟨u, rfl, ru⟩ := vals1 r
  have hu := hr.un
  have fin : ∀ (t : Tok) (h' : Heap) (tk : Nat), (∀ b o, s.heap.get? b = some o → h'.get? b = some o) → EP X pins σ Q (.str p.shown t) { s with heap := h', toks := tk } := fun t h' tk e => ⟨.str p.shown, H, I.kept e, ⟨t, rfl⟩, q⟩
  have fin0 : ∀ (t : Tok), EP X pins σ Q (.str p.shown t) { s with toks := s.toks + 1 } := fun t => ⟨.str p.shown, H, I.tok _, ⟨t, rfl⟩, q⟩
  obtain ⟨as, rd⟩ := Dp.reads I p v u hd ru
  cases rd with
  | none => exact PySem.P.repr_of_none (fin0 _)
  | bool b => exact PySem.P.repr_of_bool (fin0 _)
  | int i t => exact PySem.P.repr_of_int (by simpa [PyData.showable] using hs) (fin0 _)
  | str x t => exact PySem.P.repr_of_str (fin0 _) hz
  | list h1 h2 h3 h4 => exact repr_of_reads' (.list h1 h2 h3 h4) hs (PyData.noDict_hsm hn) hg (by omega) (fun _ _ e => e) (fun h' u tk e => fin u h' tk e) hz
  | tuple h1 h2 h3 h4 => exact repr_of_reads' (.tuple h1 h2 h3 h4) hs (PyData.noDict_hsm hn) hg (by omega) (fun _ _ e => e) (fun h' u tk e => fin u h' tk e) hz
  | dict h1 h2 h3 h4 h5 => simp [PyData.hasDict] at hn
theorem cd_repr : CallD K (rRepr K) fRepr := fun H F O ds vs Qd Q ok ra q k => by
  unfold fRepr at q
  split at q
  · obtain ⟨v, rfl, r⟩ := ra.one
    split at q
    · next p h1 =>
      obtain ⟨h2, h3, h4, h5, q⟩ := q
      exact ⟨v, p, rfl, shown_dp ok r h1, h2, h3, h4, h5, k _ H F _ (Same.refl F) (.str _) ok q⟩
    · exact q.elim
  · exact q.elim
/-! #### isinstance, built-in classes -/
def kindD (O : DH) : D → Option String
  | .non => some "NoneType"
  | .bl _ => some "bool"
  | .int _ => some "int"
  | .str _ => some "str"
  | .lst _ => some "list"
  | .wl _ => none
  | .tup _ => some "tuple"
  | .dic _ => some "dict"
  | .ref a => match O a with
    | some (.lst _) => some "list"
    | _ => none
  | _ => none
def subT (k T : String) : Bool := k == T || (k == "bool" && T == "int")
def kindsL : List String := ["NoneType", "bool", "int", "str", "list", "tuple", "dict"]
def tysL : List String := ["int", "bool", "str", "list", "tuple", "dict"]
theorem kit_all : kindsL.all (fun k => tysL.all fun T => decide (kitB k T = some (subT k T))) = true := by decide +kernel
theorem kit_of' {k T : String} (hk : k ∈ kindsL) (hT : T ∈ tysL) : PySem.W.kitOne K (.type k) (.type T) = some (subT k T) :=
  kit_ty (of_decide_eq_true (List.all_eq_true.mp (List.all_eq_true.mp kit_all k hk) T hT))
theorem kindD_rep {H F : Hp} {O : DH} (k : OkS K H F O) {d : D} {v : V} (r : Rep K F d v) {t : String} (h : kindD O d = some t) : TyX K H v (.type t) ∧ t ∈ kindsL := by
  cases r with
  | non => cases h; exact ⟨.base .non, by decide⟩
  | bl b => cases h; exact ⟨.base (.bl b), by decide⟩
  | int b => cases h; exact ⟨.base (.int b), by decide⟩
  | str b => cases h; exact ⟨.base (.str b), by decide⟩
  | lst h1 h2 => cases h; exact ⟨.base (.lst (k.ex _ _ h1)), by decide⟩
  | wl h1 h2 => cases h
  | tup h1 h2 =>
    cases h
    refine ⟨?_, by decide⟩
    rcases h1 with (h1 | ⟨o, h1⟩) | h1
    · exact .base (.tup (k.ex _ _ h1))
    · exact .fTuple (k.ex _ _ h1)
    · obtain ⟨o, its, n, e, c, _⟩ := h1
      exact .kTuple e c
  | dic h1 h2 => cases h; exact ⟨.base (.dK (k.ex _ _ h1)), by decide⟩
  | ref a =>
    unfold kindD at h
    simp only at h
    split at h
    · next ds e =>
      cases h
      obtain ⟨xs, h1, _⟩ := k.lst e
      exact ⟨.base (.lst h1), by decide⟩
    · cases h
  | ty => cases h
  | ins => cases h
end
section
variable {X : Cx} {W : WX} {e : Expr} {ta : TD} {pos p pi pt : Pos} {k1 : Nat}
/-- isinstance(e, T) -/
def dIsi (T : String) (ta : TD) : TD := fun ρ O Q E => ta ρ O (fun d O1 => match kindD O1 d with
  | some k => Q (.bl (subT k T)) O1
  | none => False) E
def anyT (k : String) (Ts : List String) : Bool := Ts.any fun T => subT k T
def dIsiT (Ts : List String) (ta : TD) : TD := fun ρ O Q E => ta ρ O (fun d O1 => match kindD O1 d with
  | some k => Q (.bl (anyT k Ts)) O1
  | none => False) E
theorem de_isi {x : Str} {T : String} (hT : T ∈ tysL) (gi : Gl X "isinstance") (mi : X.mg "isinstance" = none) (hg : Gl X x) (hm : X.mg x = none) (hv : bootBuiltins x = some (.type T)) (he : DE X W e ta) (hn : x ≠ "__name__" := by decide) (hd : (x == ("__debug__" : Str)) = false := by decide)
    (h1 : starEach [e, .Name x p] X.env = (false, eval e X.env) :: starEach [.Name x p] X.env := by rfl) (h2 : starEach [.Name x p] X.env = (false, eval (.Name x p) X.env) :: starEach [] X.env := by rfl) (h3 : (backTo pos (starEach [.Name x p] X.env)).any (·.1) = false := by rfl) :
    DE X W (.Call (.Name "isinstance" pi) [e, .Name x p] [] pos) (dIsi T ta) :=
  pe_imp (pe_callB call_isi gi mi (by decide +kernel) (pa_cons he (pa_cons (pe_bltn (v := .ty T) hg hm hv rfl hn hd) pa_nil h2) h1) (by decide) (by decide) h1 h3) fun σ H Q u => by
    obtain ⟨F, ρ, O, Qd, Ed, ok, env, td, k, xr⟩ := u
    refine ⟨F, ρ, O, _, Ed, ok, env, td, fun v H1 F1 d O1 e1 r1 ok1 q1 => ?_, xr⟩
    split at q1
    · next t ht =>
      obtain ⟨ty, hk⟩ := kindD_rep ok1 r1 ht
      exact ⟨v, .ty T, .type t, .type T, _, rfl, .ty T, ty, kit_of' hk hT, k _ H1 F1 _ O1 e1 (.bl _) ok1 q1⟩
    · exact q1.elim
theorem kitAny_of {K : PySem.W.Frag} {k : String} (hk : k ∈ kindsL) : ∀ (Ts : List String), (∀ T ∈ Ts, T ∈ tysL) → PySem.W.kitAny K (.type k) (Ts.map Value.type) = some (anyT k Ts)
  | [], _ => rfl
  | T :: Ts, h => by
    rw [List.map_cons]
    refine kitAny_cons (kit_of' hk (h T List.mem_cons_self)) (fun hb => ?_) fun hb => ?_
    · rw [kitAny_of hk Ts fun T' h' => h T' (List.mem_cons_of_mem _ h')]
      unfold anyT
      rw [List.any_cons, hb, Bool.false_or]
    · unfold anyT
      rw [List.any_cons, hb, Bool.true_or]
theorem de_isi2 {x y : Str} {S T : String} {q : Pos} (hS : S ∈ tysL) (hT : T ∈ tysL) (gi : Gl X "isinstance") (mi : X.mg "isinstance" = none) (gx : Gl X x) (mx : X.mg x = none) (vx : bootBuiltins x = some (.type S)) (gy : Gl X y) (my : X.mg y = none) (vy : bootBuiltins y = some (.type T)) (he : DE X W e ta)
    (nx : x ≠ "__name__" := by decide) (dx : (x == ("__debug__" : Str)) = false := by decide) (ny : y ≠ "__name__" := by decide) (dy : (y == ("__debug__" : Str)) = false := by decide)
    (h1 : starEach [e, .Tuple [.Name x p, .Name y q] k1 pt] X.env = (false, eval e X.env) :: starEach [.Tuple [.Name x p, .Name y q] k1 pt] X.env := by rfl)
    (h3 : (backTo pos (starEach [.Tuple [.Name x p, .Name y q] k1 pt] X.env)).any (·.1) = false := by rfl) :
    DE X W (.Call (.Name "isinstance" pi) [e, .Tuple [.Name x p, .Name y q] k1 pt] [] pos) (dIsiT [S, T] ta) :=
  pe_imp (pe_callB call_isiT gi mi (by decide +kernel) (pa_cons he (pa_cons (pe_tup (pa_cons (pe_bltn (v := .ty S) gx mx vx rfl nx dx) (pa_cons (pe_bltn (v := .ty T) gy my vy rfl ny dy) pa_nil))) pa_nil) h1) (by decide) (by decide) h1 h3) fun σ H Q u => by
    obtain ⟨F, ρ, O, Qd, Ed, ok, env, td, k, xr⟩ := u
    refine ⟨F, ρ, O, _, Ed, ok, env, td, fun v H1 F1 d O1 e1 r1 ok1 q1 => ⟨(by show 2 ≤ sizeLine; decide), fun tp htp => ?_⟩, xr⟩
    split at q1
    · next t ht =>
      obtain ⟨ok2, e2⟩ := ok1.lay htp (.tup [.ty S, .ty T])
      obtain ⟨ty, hk⟩ := kindD_rep ok2 (r1.mono e2) ht
      exact ⟨v, tp, [.ty S, .ty T], .type t, _, _, rfl, upd_same, .cons (.ty S) (.cons (.ty T) .nil), ty, kitAny_of hk [S, T] (fun T' h' => by
        rcases List.mem_cons.mp h' with rfl | h'
        · exact hS
        · rcases List.mem_cons.mp h' with rfl | h'
          · exact hT
          · cases h'), k _ _ _ _ O1 (e1.trans e2) (.bl _) ok2 q1⟩
    · exact q1.elim
end
end Dx
namespace Dx
open PySem L2
section
variable {X : Cx} {W : WX} {e : Expr} {ta : TD} {pos pos' : Pos} {st : Stmt} {rest : List Stmt} {t u : TDS}
/-! ### statements -/
def dNext : TDS := fun E ρ O => E.nx ρ O
def dSeq (t u : TDS) : TDS := fun E ρ O => t { E with nx := fun ρ' O' => u E ρ' O' } ρ O
theorem ends_nx {K : PySem.W.Frag} {F : Hp} {Ed : DEnds} {En : Ends} (x : EndsRel K W F Ed En) {N : DEnv → DH → Prop} {M : L2.St → Hp → Prop} (h : ∀ σ' H' F' ρ' O', Same F F' → OkS K H' F' O' → EnvOk K F' σ' ρ' → N ρ' O' → M σ' H') : EndsRel K W F { Ed with nx := N } { En with nx := M } :=
  ⟨h, x.bk, x.ct, x.rt, x.ex⟩
theorem dss_nil : DSs X W [] dNext := pss_imp pss_nil fun E σ H u => by
  obtain ⟨F, ρ, O, Dd, ok, env, td, x⟩ := u
  exact x.nx σ H F ρ O (Same.refl F) ok env td
theorem dss_cons (h1 : DS X W st t) (h2 : DSs X W rest u) : DSs X W (st :: rest) (dSeq t u) := pss_imp (pss_cons h1 h2) fun E σ H v => by
  obtain ⟨F, ρ, O, Dd, ok, env, td, x⟩ := v
  exact ⟨F, ρ, O, _, ok, env, td, ends_nx x fun σ' H' F' ρ' O' e ok' env' q => ⟨F', ρ', O', Dd, ok', env', q, x.mono e⟩⟩
theorem dss_one (h1 : DS X W st t) : DSs X W [st] t := pss_one h1
def dRet (ta : TD) : TDS := fun E ρ O => ta ρ O (fun d O1 => ∃ O2, Sub O2 O1 ∧ E.rt d O2) fun c f O' => E.ex c f ρ O'
theorem ds_ret (he : DE X W e ta) : DS X W (.Return (some e) pos) (dRet ta) := ps_imp (ps_ret he) fun E σ H v => by
  obtain ⟨F, ρ, O, Dd, ok, env, td, x⟩ := v
  exact ⟨F, ρ, O, _, _, ok, env, td, fun v H' F' d O' e r ok' ⟨O2, s, q⟩ => x.rt v H' F' d O2 e r (ok'.less s) q, x.xr env⟩
/-- return of a list that was made here: it is frozen -/
def dRetF (ta : TD) : TDS := fun E ρ O => ta ρ O (fun d O1 => match d with
  | .ref a => match O1 a with
    | some (.lst ds) => ∃ O2, Sub O2 O1 ∧ O2 a = none ∧ E.rt (.lst ds) O2
    | some (.dic ds) => ∃ O2, Sub O2 O1 ∧ O2 a = none ∧ E.rt (.dic ds) O2
    | _ => False
  | _ => False) fun c f O' => E.ex c f ρ O'
/-- a is frozen: it will not change any more -/
theorem OkS.frz {K : PySem.W.Frag} {H F : Hp} {O O2 : DH} (k : OkS K H F O) {a : Addr} {m : MO} (h : O a = some m) (s : Sub O2 O) (n : O2 a = none) : ∃ o, H a = some o ∧ OkS K H (upd F a o) O2 ∧ Same F (upd F a o) := by
  obtain ⟨fa, hm⟩ := k.own a m h
  obtain ⟨o, ho⟩ := hm.some
  have e : Same F (upd F a o) := fun b u h => by rw [upd_ne (ne_of_none h fa)]; exact h
  refine ⟨o, ho, ⟨fun b u hb => ?_, fun b m' hb => ?_⟩, e⟩
  · by_cases hba : b = a
    · subst hba; rw [upd_same] at hb; cases hb; exact ho
    · rw [upd_ne hba] at hb; exact k.ex b u hb
  · have ne : b ≠ a := fun z => by rw [z, n] at hb; cases hb
    obtain ⟨h1, h2⟩ := k.own b m' (s b m' hb)
    exact ⟨by rw [upd_ne ne]; exact h1, h2.mono e rfl⟩
theorem OkS.frzL {K : PySem.W.Frag} {H F : Hp} {O O2 : DH} (k : OkS K H F O) {a : Addr} {ds : List D} (h : O a = some (.lst ds)) (s : Sub O2 O) (n : O2 a = none) : ∃ F', OkS K H F' O2 ∧ Same F F' ∧ Rep K F' (.lst ds) (.ref a) := by
  obtain ⟨xs, h1, h2⟩ := k.lst h
  obtain ⟨o, ho, ok2, e⟩ := k.frz h s n
  rw [h1] at ho
  cases ho
  exact ⟨_, ok2, e, .lst upd_same (h2.mono e)⟩
theorem OkS.frzD {K : PySem.W.Frag} {H F : Hp} {O O2 : DH} (k : OkS K H F O) {a : Addr} {ds : List (Key × D)} (h : O a = some (.dic ds)) (s : Sub O2 O) (n : O2 a = none) : ∃ F', OkS K H F' O2 ∧ Same F F' ∧ Rep K F' (.dic ds) (.ref a) := by
  obtain ⟨_, xs, h1, h2⟩ := k.own a _ h
  obtain ⟨o, ho, ok2, e⟩ := k.frz h s n
  rw [h1] at ho
  cases ho
  exact ⟨_, ok2, e, .dic upd_same (h2.mono e)⟩
theorem ds_retF (he : DE X W e ta) : DS X W (.Return (some e) pos) (dRetF ta) := ps_imp (ps_ret he) fun E σ H v => by
  obtain ⟨F, ρ, O, Dd, ok, env, td, x⟩ := v
  refine ⟨F, ρ, O, _, _, ok, env, td, fun v H' F' d O' e r ok' q => ?_, x.xr env⟩
  split at q
  · cases r
    split at q
    · next h =>
      obtain ⟨O2, s, n, q⟩ := q
      obtain ⟨F2, ok2, e2, r2⟩ := ok'.frzL h s n
      exact x.rt _ H' F2 _ O2 (e.trans e2) r2 ok2 q
    · next h =>
      obtain ⟨O2, s, n, q⟩ := q
      obtain ⟨F2, ok2, e2, r2⟩ := ok'.frzD h s n
      exact x.rt _ H' F2 _ O2 (e.trans e2) r2 ok2 q
    · exact q.elim
  · exact q.elim
def dRetN : TDS := fun E _ O => ∃ O2, Sub O2 O ∧ E.rt .non O2
theorem ds_retN : DS X W (.Return none pos) dRetN := ps_imp ps_retN fun E σ H v => by
  obtain ⟨F, ρ, O, Dd, ok, env, ⟨O2, s, q⟩, x⟩ := v
  exact x.rt .non H F .non O2 (Same.refl F) .non (ok.less s) q
def dDrop (ta : TD) : TDS := fun E ρ O => ta ρ O (fun _ O1 => E.nx ρ O1) fun c f O' => E.ex c f ρ O'
theorem ds_expr (he : DE X W e ta) (hs : swapsWith e none pos.line X.env = pure false := by rfl) : DS X W (.Expr e pos) (dDrop ta) := ps_imp (ps_expr he hs) fun E σ H v => by
  obtain ⟨F, ρ, O, Dd, ok, env, td, x⟩ := v
  exact ⟨F, ρ, O, _, _, ok, env, td, fun v H' F' d O' e r ok' q => x.nx σ H' F' ρ O' e ok' (env.mono e) q, x.xr env⟩
def dIfS (c : TDT) (t u : TDS) : TDS := fun E ρ O => c ρ O (fun b O1 => match b with
  | true => t E ρ O1
  | false => u E ρ O1) fun c f O' => E.ex c f ρ O'
theorem ds_if {c : Expr} {a b : List Stmt} {tc : TDT} (hc : DT X W c tc) (ha : DSs X W a t) (hb : DSs X W b u) : DS X W (.If c a b pos) (dIfS tc t u) := ps_imp (ps_if hc ha hb) fun E σ H v => by
  obtain ⟨F, ρ, O, Dd, ok, env, td, x⟩ := v
  refine ⟨F, ρ, O, _, _, ok, env, td, fun b H' F' O' e ok' q => ?_, x.xr env⟩
  cases b with
  | true => exact iteT ⟨F', ρ, O', Dd, ok', env.mono e, q, x.mono e⟩
  | false => exact iteF ⟨F', ρ, O', Dd, ok', env.mono e, q, x.mono e⟩
theorem ds_pass : DS X W (.Pass pos) dNext := ps_imp ps_pass fun E σ H u => by
  obtain ⟨F, ρ, O, Dd, ok, env, td, x⟩ := u
  exact x.nx σ H F ρ O (Same.refl F) ok env td
def dBreak : TDS := fun E ρ O => E.bk ρ O
theorem ds_break : DS X W (.Break pos) dBreak := ps_imp ps_break fun E σ H u => by
  obtain ⟨F, ρ, O, Dd, ok, env, td, x⟩ := u
  exact x.bk σ H F ρ O (Same.refl F) ok env td
def dCont : TDS := fun E ρ O => E.ct ρ O
theorem ds_cont : DS X W (.Continue pos) dCont := ps_imp ps_continue fun E σ H u => by
  obtain ⟨F, ρ, O, Dd, ok, env, td, x⟩ := u
  exact x.ct σ H F ρ O (Same.refl F) ok env td
/-! ### targets: names, tuples of targets -/
abbrev DG := D → DEnv → (DEnv → Prop) → Prop
def upG (K : PySem.W.Frag) (vs : List Nat) (g : DG) : TG := fun v σ H Q => ∃ F ρ d Qd, Same F H ∧ EnvOk K F σ ρ ∧ Rep K F d v ∧ g d ρ Qd ∧ ∀ σ' ρ', EnvOk K F σ' ρ' → wipe σ' vs = wipe σ vs → Qd ρ' → Q σ' H
abbrev GP (X : Cx) (vs : List Nat) (tg : Expr) (g : DG) : Prop := PG X tg (upG X.K vs g)
def gN (i : Nat) : DG := fun d ρ Q => Q (ρ.set i (some d))
theorem wipe_set {σ : L2.St} {x : Option V} : ∀ {vs : List Nat} {i : Nat}, i ∈ vs → wipe (σ.set i x) vs = wipe σ vs := by
  have h0 : ∀ (vs : List Nat) (σ : L2.St) (j : Nat), (wipe σ vs)[j]? = if j ∈ vs then (σ[j]?).map (fun _ => none) else σ[j]? := by
    intro vs
    induction vs with
    | nil => intro σ j; simp [wipe]
    | cons k r ih =>
      intro σ j
      show ((wipe σ r).set k none)[j]? = _
      rw [List.getElem?_set]
      by_cases hk : k = j
      · subst hk
        simp only [if_true, List.mem_cons, true_or]
        rw [wipe_length]
        by_cases hl : k < σ.length
        · simp [hl]
        · simp [hl, List.getElem?_eq_none (Nat.le_of_not_lt hl)]
      · rw [if_neg hk, ih]
        have : j ≠ k := fun z => hk z.symm
        simp [this]
  intro vs i hi
  apply List.ext_getElem?
  intro j
  rw [h0, h0]
  by_cases hj : j ∈ vs
  · rw [if_pos hj, if_pos hj, List.getElem?_set]
    by_cases hij : i = j
    · subst hij
      by_cases hl : i < σ.length
      · simp [hl]
      · simp [hl, List.getElem?_eq_none (Nat.le_of_not_lt hl)]
    · rw [if_neg hij]
  · rw [if_neg hj, if_neg hj, List.getElem?_set_ne (fun z => hj (by subst z; exact hi))]
theorem gp_name {i : Nat} {x : Str} {vs : List Nat} (hN : X.N.Nodup) (hm : i ∈ vs) (hi : X.N[i]? = some x) (hx : Loc X.env.scope x) (hf : X.fn x = true ∨ X.env.scope.names.lookup x = some .local := by first | exact .inl rfl | exact .inr rfl | assumption) : GP X vs (.Name x pos) (gN i) :=
  ⟨fun pins s σ H v u Q I r h => by
    obtain ⟨F, ρ, d, Qd, ex, env, rd, g, k⟩ := h
    exact (pg_name hN hi hx hf).run pins s σ H v u Q I r (k _ _ (env.set rd i) (wipe_set hm) g)⟩
abbrev DGs := List D → DEnv → (DEnv → Prop) → Prop
def gNl : DGs := fun ds ρ Q => match ds with
  | [] => Q ρ
  | _ => False
def gCn (g : DG) (r : DGs) : DGs := fun ds ρ Q => match ds with
  | d :: ds => g d ρ fun ρ' => r ds ρ' Q
  | [] => False
def gTu (r : DGs) : DG := fun d ρ Q => match d with
  | .tup ds => r ds ρ Q
  | _ => False
def upGs (K : PySem.W.Frag) (vs : List Nat) (g : DGs) : TGs := fun v σ H Q => ∃ F ρ d Qd, Same F H ∧ EnvOk K F σ ρ ∧ RepA K F d v ∧ g d ρ Qd ∧ ∀ σ' ρ', EnvOk K F σ' ρ' → wipe σ' vs = wipe σ vs → Qd ρ' → Q σ' H
abbrev GPs (X : Cx) (vs : List Nat) (tg : List Expr) (g : DGs) : Prop := PGs X tg (upGs X.K vs g)
theorem gps_nil {vs : List Nat} : GPs X vs [] gNl := ⟨fun pins s σ H v u Q I r h => by
  obtain ⟨F, ρ, d, Qd, ex, env, rd, g, k⟩ := h
  cases rd with
  | nil => exact pgs_nil.run pins s σ H [] u Q I r ⟨rfl, k _ _ env rfl g⟩
  | cons _ _ => exact g.elim⟩
theorem gps_cons {vs : List Nat} {es : List Expr} {g : DG} {r : DGs} (h1 : GP X vs e g) (h2 : GPs X vs es r) (hs : (assignEach (e :: es) X.env).map (·.2) = assign e X.env :: (assignEach es X.env).map (·.2) := by rfl) : GPs X vs (e :: es) (gCn g r) :=
  ⟨fun pins s σ H v u Q I rr h => (pgs_cons h1 h2 hs).run pins s σ H v u Q I rr (by
    obtain ⟨F, ρ, d, Qd, ex, env, rd, g, k⟩ := h
    cases rd with
    | nil => exact g.elim
    | cons r1 r2 =>
      refine ⟨_, _, rfl, F, ρ, _, _, ex, env, r1, g, fun σ' ρ' env' hw q => ?_⟩
      exact ⟨F, ρ', _, _, ex, env', r2, q, fun σ2 ρ2 env2 hw2 q2 => k σ2 ρ2 env2 (hw2.trans hw) q2⟩)⟩
theorem gp_tup {vs : List Nat} {es : List Expr} {k1 : Nat} {r : DGs} {n : Nat} (hc : X.calm = true) (h : GPs X vs es r) (hn0 : ∀ ds ρ Q, r ds ρ Q → ds.length = n) (hn : (assignEach es X.env).length = n := by rfl) (hst : (assignEach es X.env).findIdx? (·.1) = none := by rfl) :
    GP X vs (.Tuple es k1 pos) (gTu r) := ⟨fun pins s σ H v u Q I rr hh => (pg_tup hc h hn hst).run pins s σ H v u Q I rr (by
    obtain ⟨F, ρ, d, Qd, ex, env, rd, g, k⟩ := hh
    unfold gTu at g
    split at g
    · cases rd with
      | tup h1 h2 => exact ⟨_, _, rfl, same_sqt ex h1, by rw [← h2.length]; exact hn0 _ _ _ g, F, ρ, _, Qd, ex, env, h2, g, k⟩
    · exact g.elim)⟩
theorem gcn_len {g : DG} {r : DGs} {n : Nat} (h : ∀ ds ρ Q, r ds ρ Q → ds.length = n) (hg : ∀ d ρ Q, g d ρ Q → ∃ ρ', Q ρ') : ∀ ds ρ Q, gCn g r ds ρ Q → ds.length = n + 1 := fun ds ρ Q q => by
  cases ds with
  | nil => exact q.elim
  | cons d ds =>
    obtain ⟨ρ', q'⟩ := hg _ _ _ q
    rw [List.length_cons, h _ _ _ q']
theorem gnl_len : ∀ ds ρ Q, gNl ds ρ Q → ds.length = 0 := fun ds ρ Q q => by
  cases ds with
  | nil => rfl
  | cons d ds => exact q.elim
theorem gn_go {i : Nat} : ∀ d ρ Q, gN i d ρ Q → ∃ ρ', Q ρ' := fun d ρ Q q => ⟨_, q⟩
/-! ### assignments -/
def dAsg (ta : TD) (g : DG) : TDS := fun E ρ O => ta ρ O (fun d O1 => g d ρ fun ρ' => E.nx ρ' O1) fun c f O' => E.ex c f ρ O'
theorem up_asg {vs : List Nat} {g : DG} {K : PySem.W.Frag} : ∀ E σ H, upS K W (dAsg ta g) E σ H → tAsg (up K W ta) (upG K vs g) E σ H := fun E σ H v => by
  obtain ⟨F, ρ, O, Dd, ok, env, td, x⟩ := v
  refine ⟨F, ρ, O, _, _, ok, env, td, fun v H' F' d O' e r ok' q => ?_, x.xr env⟩
  exact ⟨F', ρ, d, _, ok'.ex, env.mono e, r, q, fun σ' ρ' env' _ q' => x.nx σ' H' F' ρ' O' e ok' env' q'⟩
theorem ds_asg {vs : List Nat} {tg : Expr} {g : DG} (he : DE X W e ta) (hg : GP X vs tg g) (hs : swapsWithSole [tg] e pos.line X.env = pure false := by rfl) (hw : swappedStores [tg] e X.env = pure none := by rfl)
    (h1 : (assignEach [tg] X.env).map (·.2) = [assign tg X.env] := by rfl) : DS X W (.Assign [tg] e pos) (dAsg ta g) := ps_imp (ps_asg he hg hs hw h1) up_asg
theorem ds_set (i : Nat) {x : Str} (hN : X.N.Nodup) (he : DE X W e ta) (hi : X.N[i]? = some x := by rfl) (hx : Loc X.env.scope x := by first | exact Or.inl rfl | exact Or.inr rfl) (hs : swapsWith e (some (.Name x pos')) pos.line X.env = pure false := by rfl)
    (hf : X.fn x = true ∨ X.env.scope.names.lookup x = some .local := by first | exact .inl rfl | exact .inr rfl) : DS X W (.Assign [.Name x pos'] e pos) (dAsg ta (gN i)) :=
  ps_imp (ps_set hN hi hx he hs hf) fun E σ H v => by
    obtain ⟨F, ρ, O, Dd, ok, env, td, x⟩ := v
    exact ⟨F, ρ, O, _, _, ok, env, td, fun v H' F' d O' e r ok' q => x.nx _ H' F' _ O' e ok' ((env.mono e).set r i) q, x.xr env⟩
/-- a, b = x, y -/
def dPar (i j : Nat) (tr : TDA) : TDS := fun E ρ O => tr ρ O (fun ds O1 => match ds with
  | [d1, d2] => E.nx ((ρ.set i (some d1)).set j (some d2)) O1
  | _ => False) fun c f O' => E.ex c f ρ O'
theorem ds_par (i j : Nat) {x y : Str} {a b : Expr} {tr : TDA} {px py pt : Pos} {kt k2 pt2} (hN : X.N.Nodup) (ha : DA X W [a, b] tr) (hc : X.calm = true := by rfl) (hi : X.N[i]? = some x := by rfl) (hj : X.N[j]? = some y := by rfl) (hij : i ≠ j := by decide)
    (hx : X.env.scope.names.lookup x = some .local := by rfl) (hy : X.env.scope.names.lookup y = some .local := by rfl) (hw : swappedStores [.Tuple [.Name x px, .Name y py] kt pt] (.Tuple [a, b] k2 pt2) X.env = pure (some [x, y]) := by rfl) (hs : swapsWithSole [.Tuple [.Name x px, .Name y py] kt pt] (.Tuple [a, b] k2 pt2) pos.line X.env = pure false := by rfl) : DS X W (.Assign [.Tuple [.Name x px, .Name y py] kt pt] (.Tuple [a, b] k2 pt2) pos) (dPar i j tr) :=
  ps_imp (ps_par hc hN hi hj hij hx hy ha hw hs) fun E σ H v => by
    obtain ⟨F, ρ, O, Dd, ok, env, td, x⟩ := v
    refine ⟨F, ρ, O, _, _, ok, env, td, fun vs H' F' ds O' e r ok' q => ?_, x.xr env⟩
    split at q
    · obtain ⟨v, w, rfl, r1, r2⟩ := r.two
      exact ⟨v, w, rfl, x.nx _ H' F' _ O' e ok' (((env.mono e).set r1 i).set r2 j) q⟩
    · exact q.elim
/-- x += e -/
def dAug (i : Nat) (f : FD2) (ta : TD) : TDS := fun E ρ O => match ρ[i]? with
  | some (some x) => ta ρ O (fun y O1 => f O1 x y fun z => E.nx (ρ.set i (some z)) O1) fun c f O' => E.ex c f ρ O'
  | _ => False
theorem ds_aug (i : Nat) {x : Str} {op : Operator} {r : R2} {f : FD2} (hN : X.N.Nodup) (ho : PIp X op r) (h : Op2 X.K r f) (he : DE X W e ta) (hi : X.N[i]? = some x := by rfl) (hx : Loc X.env.scope x := by first | exact Or.inl rfl | exact Or.inr rfl)
    (hf : X.fn x = true ∨ X.env.scope.names.lookup x = some .local := by first | exact .inl rfl | exact .inr rfl) : DS X W (.AugAssign (.Name x pos') op e pos) (dAug i f ta) :=
  ps_imp (ps_aug hN hi hx he ho hf) fun E σ H v => by
    obtain ⟨F, ρ, O, Dd, ok, env, td, x⟩ := v
    unfold dAug at td
    split at td
    · next d hd =>
      obtain ⟨v, h1, h2⟩ := env.at_ i d hd
      refine ⟨v, h1, F, ρ, O, _, _, ok, env, td, fun w H' F' d' O' e r ok' q => ?_, x.xr env⟩
      exact h H' F' O' d d' v w _ _ ok' (h2.mono e) r q fun v3 H3 F3 d3 e3 r3 ok3 q3 => x.nx _ H3 F3 _ O' (e.trans e3) ok3 ((env.mono (e.trans e3)).set r3 i) q3
    · exact td.elim
/-- o[i] = e of a list that may change -/
def dSetIx (te to_ ti : TD) : TDS := fun E ρ O => te ρ O (fun d O1 => to_ ρ O1 (fun o O2 => ti ρ O2 (fun k O3 => match o, k with
  | .ref a, .int z => match O3 a with
    | some (.lst ds) => match ixN ds.length z with
      | some j => E.nx ρ (updO O3 a (.lst (ds.set j d)))
      | none => False
    | _ => False
  | _, _ => False) fun c f O' => E.ex c f ρ O') fun c f O' => E.ex c f ρ O') fun c f O' => E.ex c f ρ O'
theorem ds_setIx {o i : Expr} {to_ ti : TD} (he : DE X W e ta) (ho : DE X W o to_) (hi : DE X W i ti)
    (ha : ∀ v, assign (.Subscript o i pos') X.env v = (do
      let ov ← holding [v] (eval o X.env)
      let iv ← holding [v, ov] (eval i X.env)
      standAt pos'
      holding [v, ov, iv] (setItem ov iv v)
      release [v, ov, iv] []) := by intro _; rfl) (hs : swapsWithSole [.Subscript o i pos'] e pos.line X.env = pure false := by rfl) (hw : swappedStores [.Subscript o i pos'] e X.env = pure none := by rfl)
    (h1 : (assignEach [.Subscript o i pos'] X.env).map (·.2) = [assign (.Subscript o i pos') X.env] := by rfl) : DS X W (.Assign [.Subscript o i pos'] e pos) (dSetIx ta to_ ti) :=
  ps_imp (ps_asg he (pg_sub ho hi set_list ha) hs hw h1) fun E σ H v => by
    obtain ⟨F, ρ, O, Dd, ok, env, td, x⟩ := v
    refine ⟨F, ρ, O, _, _, ok, env, td, fun v1 H1 F1 d1 O1 e1 r1 ok1 q1 => ?_, x.xr env⟩
    refine ⟨F1, ρ, O1, _, _, ok1, env.mono e1, q1, fun v2 H2 F2 d2 O2 e2 r2 ok2 q2 => ?_, (x.mono e1).xr (env.mono e1)⟩
    refine ⟨F2, ρ, O2, _, _, ok2, env.mono (e1.trans e2), q2, fun v3 H3 F3 d3 O3 e3 r3 ok3 q3 => ?_, (x.mono (e1.trans e2)).xr (env.mono (e1.trans e2))⟩
    split at q3
    · cases r2
      cases r3
      split at q3
      · next ds hds =>
        split at q3
        · next j hj =>
          obtain ⟨xs, h1, h2⟩ := ok3.lst hds
          refine ⟨_, xs, _, j, rfl, rfl, h1, by rw [← h2.length]; exact hj, ?_⟩
          have e := (e1.trans e2).trans e3
          exact x.nx σ _ F3 ρ _ e (ok3.put (m := .lst (ds.set j d1)) hds ⟨_, upd_same, h2.set (r1.mono (e2.trans e3)) j⟩) (env.mono e) q3
        · exact q3.elim
      · exact q3.elim
    · exact q3.elim
/-- l.append(e) -/
def dApp (to_ te : TD) : TDS := fun E ρ O => to_ ρ O (fun o O1 => match o with
  | .ref a => match O1 a with
    | some (.lst _) => te ρ O1 (fun d O2 => match O2 a with
      | some (.lst ds) => ds.length < sizeLine ∧ E.nx ρ (updO O2 a (.lst (ds ++ [d])))
      | _ => False) fun c f O' => E.ex c f ρ O'
    | _ => False
  | _ => False) fun c f O' => E.ex c f ρ O'
theorem up_app {K : PySem.W.Frag} {to_ te : TD} : ∀ E σ H, upS K W (dApp to_ te) E σ H → tDrop (tBM K "list" rAppend (up K W to_) (tCons (up K W te) tNil)) E σ H := fun E σ H v => by
  obtain ⟨F, ρ, O, Dd, ok, env, td, x⟩ := v
  refine ⟨F, ρ, O, _, _, ok, env, td, fun v1 H1 F1 d1 O1 e1 r1 ok1 q1 => ?_, x.xr env⟩
  split at q1
  · cases r1
    split at q1
    · next hl0 =>
      obtain ⟨xs0, h0, _⟩ := ok1.lst hl0
      refine ⟨.inl ⟨rfl, xs0, .inl (.inl h0)⟩, F1, ρ, O1, _, _, ok1, env.mono e1, q1, fun v2 H2 F2 d2 O2 e2 r2 ok2 q2 => ?_, (x.mono e1).xr (env.mono e1)⟩
      split at q2
      · next ds hds =>
        obtain ⟨xs, h1, h2⟩ := ok2.lst hds
        refine ⟨_, xs, v2, rfl, rfl, h1, by rw [← h2.length]; exact q2.1, ?_⟩
        exact x.nx σ _ F2 ρ _ (e1.trans e2) (ok2.put (m := .lst (ds ++ [d2])) hds ⟨_, upd_same, h2.append (.cons r2 .nil)⟩) (env.mono (e1.trans e2)) q2.2
      · exact q2.elim
    · exact q1.elim
  · exact q1.elim
theorem ds_app {o : Expr} {to_ : TD} {apos cpos : Pos} (ho : DE X W o to_) (he : DE X W e ta) (h1 : attributeBase o "append" X.env (eval o X.env) = eval o X.env := by rfl)
    (h2 : (((backTo cpos (starEach [e] X.env)).all fun x => !x.fst) && (backToKw cpos (keywordEach [] X.env)).all (fun x => x.fst.isSome) && decide (([e].length + ([] : List Keyword).length + if ([] : List Keyword).isEmpty = true then 0 else 1) < 30)) = true := by rfl)
    (h3 : (apos.endLine == cpos.line) = true := by rfl) (h4 : starEach [e] X.env = (false, eval e X.env) :: starEach [] X.env := by rfl) (h5 : ((backTo cpos (starEach [] X.env)).any fun x => x.fst) = false := by rfl)
    (hs : swapsWith (.Call (.Attribute o "append" apos) [e] [] cpos) none pos.line X.env = pure false := by rfl) : DS X W (.Expr (.Call (.Attribute o "append" apos) [e] [] cpos) pos) (dApp to_ ta) :=
  ps_imp (ps_expr (pe_bm PySem.F.plainAttrs_list PySem.F.slot_list_append PySem.F.type_list_append mt_append ho (pa_cons he pa_nil h4) h1 h2 h3 h4 h5) hs) up_app
/-! ### what is walked -/
/-- J yields ds, while gd says so of what changes -/
def ItOk (K : PySem.W.Frag) (F : Hp) (gd : DH → Prop) (J : It) (ds : List D) : Prop := ∀ H F' O', Same F F' → OkS K H F' O' → gd O' → ∀ i,
  (∀ d, ds[i]? = some d → J.go i H ∧ ∀ x H', J.yld i H x H' → (H' = H ∧ Rep K F' d x) ∨ ∃ p o, H p = none ∧ H' = upd H p o ∧ Rep K (upd F' p o) d x) ∧ (ds.length ≤ i → J.stop i H)
theorem ItOk.mono {K : PySem.W.Frag} {F F' : Hp} {gd : DH → Prop} {J : It} {ds : List D} (h : ItOk K F gd J ds) (e : Same F F') : ItOk K F' gd J ds := fun H F2 O' e2 => h H F2 O' (e.trans e2)
abbrev gdT : DH → Prop := fun _ => True
abbrev TDI := DEnv → DH → (List D → (DH → Prop) → DH → Prop) → XD → Prop
def upI (K : PySem.W.Frag) (W : WX) (td : TDI) : TI := fun σ H R => ∃ F ρ O Qd Ed, OkS K H F O ∧ EnvOk K F σ ρ ∧ td ρ O Qd Ed ∧ (∀ J H' F' ds gd O', Same F F' → OkS K H' F' O' → ItOk K F' gd J ds → Qd ds gd O' → R J H') ∧ XRel K W F σ Ed
abbrev DI (X : Cx) (W : WX) (tg iter : Expr) (td : TDI) : Prop := PI X tg iter (upI X.K W td)
theorem pi_imp {X : Cx} {tg iter : Expr} {wi wi' : TI} (h : PI X tg iter wi) (i : ∀ σ H R, wi' σ H R → wi σ H R) : PI X tg iter wi' := ⟨fun pins s σ H R I hw => h.run pins s σ H R I (i σ H R hw)⟩
theorem itl_ok {K : PySem.W.Frag} {F : Hp} {a : Addr} {xs : List V} {ds : List D} (h : SqL K F a xs) (r : RepA K F ds xs) : ItOk K F gdT (Itl K a) ds := fun H F' O' e ok _ i => by
  have h' := same_sql (e.trans ok.ex) h
  refine ⟨fun d hd => ?_, fun hl => ⟨xs, h', by rw [← r.length]; exact hl⟩⟩
  obtain ⟨v, hv, rv⟩ := r.get hd
  refine ⟨⟨xs, v, h', hv⟩, fun x H' y => .inl ⟨y.1, ?_⟩⟩
  have := y.2 xs h'
  rw [hv] at this
  cases this
  exact rv.mono e
theorem itm_ok {K : PySem.W.Frag} {F : Hp} {a : Addr} {ds : List D} : ItOk K F (fun O => O a = some (.lst ds)) (Itl K a) ds := fun H F' O' e ok g i => by
  obtain ⟨xs, h, r⟩ := ok.lst g
  have h' : SqL K H a xs := .inl (.inl h)
  refine ⟨fun d hd => ?_, fun hl => ⟨xs, h', by rw [← r.length]; exact hl⟩⟩
  obtain ⟨v, hv, rv⟩ := r.get hd
  refine ⟨⟨xs, v, h', hv⟩, fun x H' y => .inl ⟨y.1, ?_⟩⟩
  have := y.2 xs h'
  rw [hv] at this
  cases this
  exact rv
theorem itt_ok {K : PySem.W.Frag} {F : Hp} {a : Addr} {xs : List V} {ds : List D} (h : SqT K F a xs) (r : RepA K F ds xs) : ItOk K F gdT (Itt K a) ds := fun H F' O' e ok _ i => by
  have h' := same_sqt (e.trans ok.ex) h
  refine ⟨fun d hd => ?_, fun hl => ⟨xs, h', by rw [← r.length]; exact hl⟩⟩
  obtain ⟨v, hv, rv⟩ := r.get hd
  refine ⟨⟨xs, v, h', hv⟩, fun x H' y => .inl ⟨y.1, ?_⟩⟩
  have := y.2 xs h'
  rw [hv] at this
  cases this
  exact rv.mono e
def intsFrom (lo : Int) (n : Nat) : List D := (List.range n).map fun (i : Nat) => D.int (lo + (i : Int))
theorem itr_ok {K : PySem.W.Frag} {F : Hp} {lo : Int} {n : Nat} : ItOk K F gdT (Itr lo n) (intsFrom lo n) := fun H F' O' e ok _ i => by
  refine ⟨fun d hd => ?_, fun hl => by
    unfold intsFrom at hl
    show n ≤ i
    simpa using hl⟩
  unfold intsFrom at hd
  rw [List.getElem?_map] at hd
  cases hr : (List.range n)[i]? with
  | none => rw [hr] at hd; cases hd
  | some j =>
    rw [hr] at hd
    cases hd
    obtain ⟨hi, hj⟩ := List.getElem?_eq_some_iff.mp hr
    have hj' : i = j := by simpa using hj
    subst hj'
    have hn : i < n := by simpa using hi
    exact ⟨hn, fun x H' y => .inl ⟨y.1, by rw [y.2]; exact .int _⟩⟩
/-- a list or a tuple -/
def iSeq (K : PySem.W.Frag) (tl : TE) : TI := fun σ H R => tl σ H fun x H1 => ∃ a, x = .ref a ∧ (((∃ xs, SqL K H1 a xs) ∧ R (Itl K a) H1) ∨ ((∃ xs, SqT K H1 a xs) ∧ R (Itt K a) H1))
theorem pi_seq {tg l : Expr} {tl : TE} (hl : PE X l tl) : PI X tg l (iSeq X.K tl) := by
  refine ⟨fun pins s σ H R I h => thn (hl.run pins s σ H _ I h) fun v s1 hq => ?_⟩
  obtain ⟨x, H1, I1, r1, a, rfl, q⟩ := hq
  cases r1
  have fresh : ∀ b ∈ [s1.heap.objs.size], FpOk X pins H1 b := fun b hb => by
    obtain rfl : b = s1.heap.objs.size := by simpa using hb
    exact I1.fpOk (Nat.le_refl _) (I1.hok.fresh (Nat.le_refl _))
  rcases q with ⟨⟨xs, hq⟩, q⟩ | ⟨⟨xs, hq⟩, q⟩
  · obtain ⟨its, _, hp, _⟩ := I1.list hq
    exact wpAny_pyIter_list hp.isList ⟨_, [s1.heap.objs.size], _, Itl X.K a, H1, rfl, I1.kept (t' := s1.toks) fun b o e => Heap.get?_push_of_some _ e, turn_list a _, ⟨_, Heap.get?_push_size _ rfl, rfl, rfl⟩, fresh, q⟩
  · obtain ⟨its, _, hp, _⟩ := I1.tuple hq
    exact wpAny_pyIter_tuple (show s1.heap.IsTuple a its.toArray from hp) ⟨_, [s1.heap.objs.size], _, Itt X.K a, H1, rfl, I1.kept (t' := s1.toks) fun b o e => Heap.get?_push_of_some _ e, turn_tuple a _, ⟨_, Heap.get?_push_size _ rfl, rfl, rfl⟩, fresh, q⟩
/-- what a list or tuple holds, and what must stand while it is walked -/
def guardD (d : D) (ds : List D) : DH → Prop := match d with
  | .ref a => fun O => O a = some (.lst ds)
  | _ => gdT
def dISeq (t : TD) : TDI := fun ρ O Q E => t ρ O (fun d O1 => match items O1 d with
  | some ds => Q ds (guardD d ds) O1
  | none => False) E
theorem di_seq {tg l : Expr} {tl : TD} (hl : DE X W l tl) : DI X W tg l (dISeq tl) := pi_imp (pi_seq hl) fun σ H R u => by
  obtain ⟨F, ρ, O, Qd, Ed, ok, env, td, k, xr⟩ := u
  refine ⟨F, ρ, O, _, Ed, ok, env, td, fun v H1 F1 d O1 e1 r1 ok1 q1 => ?_, xr⟩
  split at q1
  · next ds h =>
    cases r1 with
    | lst h1 h2 => cases h; exact ⟨_, rfl, .inl ⟨⟨_, .inl (.inl (ok1.ex _ _ h1))⟩, k _ H1 F1 _ _ O1 e1 ok1 (itl_ok (.inl (.inl h1)) h2) q1⟩⟩
    | wl h1 h2 => cases h; exact ⟨_, rfl, .inl ⟨⟨_, same_sql ok1.ex h1⟩, k _ H1 F1 _ _ O1 e1 ok1 (itl_ok h1 h2) q1⟩⟩
    | tup h1 h2 => cases h; exact ⟨_, rfl, .inr ⟨⟨_, same_sqt ok1.ex h1⟩, k _ H1 F1 _ _ O1 e1 ok1 (itt_ok h1 h2) q1⟩⟩
    | ref a =>
      unfold items at h
      simp only at h
      split at h
      · next es e =>
        cases h
        obtain ⟨xs, h1, _⟩ := ok1.lst e
        exact ⟨_, rfl, .inl ⟨⟨_, .inl (.inl h1)⟩, k _ H1 F1 _ _ O1 e1 ok1 itm_ok q1⟩⟩
      · cases h
    | _ => cases h
  · exact q1.elim
def dIRng1 (tr : TDA) : TDI := fun ρ O Q E => tr ρ O (fun ds O1 => match ds with
  | [.int j] => -(2 ^ 62) ≤ j ∧ j < 2 ^ 62 ∧ Q (intsFrom 0 j.toNat) gdT O1
  | _ => False) E
theorem di_rng1 {tg a : Expr} {tr : TDA} {p : Pos} (hg : Gl X "range") (hm : X.mg "range" = none) (ha : DA X W [a] tr) (hs : starEach [a] X.env = [(false, eval a X.env)] := by rfl) : DI X W tg (.Call (.Name "range" p) [a] [] pos) (dIRng1 tr) :=
  pi_imp (pi_range1 hg hm ha hs) fun σ H R u => by
    obtain ⟨F, ρ, O, Qd, Ed, ok, env, td, k, xr⟩ := u
    refine ⟨F, ρ, O, _, Ed, ok, env, td, fun v H1 F1 d O1 e1 r1 ok1 q1 => ?_, xr⟩
    split at q1
    · obtain ⟨v, rfl, r⟩ := r1.one
      cases r
      exact ⟨_, rfl, q1.1, q1.2.1, k _ H1 F1 _ _ O1 e1 ok1 itr_ok q1.2.2⟩
    · exact q1.elim
def dIRng2 (tr : TDA) : TDI := fun ρ O Q E => tr ρ O (fun ds O1 => match ds with
  | [.int i, .int j] => (-(2 ^ 62) ≤ i ∧ i < 2 ^ 62 ∧ -(2 ^ 62) ≤ j ∧ j < 2 ^ 62) ∧ Q (intsFrom i (j - i).toNat) gdT O1
  | _ => False) E
theorem di_rng2 {tg a b : Expr} {tr : TDA} {p : Pos} (hg : Gl X "range") (hm : X.mg "range" = none) (ha : DA X W [a, b] tr) (hs : starEach [a, b] X.env = [(false, eval a X.env), (false, eval b X.env)] := by rfl) (hs2 : starEach [b] X.env = [(false, eval b X.env)] := by rfl) : DI X W tg (.Call (.Name "range" p) [a, b] [] pos) (dIRng2 tr) :=
  pi_imp (pi_range2 hg hm ha hs hs2) fun σ H R u => by
    obtain ⟨F, ρ, O, Qd, Ed, ok, env, td, k, xr⟩ := u
    refine ⟨F, ρ, O, _, Ed, ok, env, td, fun v H1 F1 d O1 e1 r1 ok1 q1 => ?_, xr⟩
    split at q1
    · obtain ⟨v, w, rfl, r, r'⟩ := r1.two
      cases r; cases r'
      exact ⟨_, _, rfl, q1.1, k _ H1 F1 _ _ O1 e1 ok1 itr_ok q1.2⟩
    · exact q1.elim
/-! ### for -/
def forGo (g : DG) (b : TDS) (E : DEnds) (gd : DH → Prop) : List D → DEnv → DH → Prop
  | [], ρ, O => gd O ∧ E.nx ρ O
  | d :: ds, ρ, O => gd O ∧ g d ρ fun ρ1 => b { E with nx := forGo g b E gd ds, ct := forGo g b E gd ds, bk := E.nx } ρ1 O
def dFor (wi : TDI) (g : DG) (b : TDS) : TDS := fun E ρ O => wi ρ O (fun ds gd O1 => forGo g b E gd ds ρ O1) fun c f O' => E.ex c f ρ O'
theorem up_for {K : PySem.W.Frag} {vs : List Nat} {wi : TDI} {g : DG} {b : TDS} : ∀ E σ H, upS K W (dFor wi g b) E σ H → tFor (upI K W wi) (upG K vs g) (upS K W b) E σ H := fun E σ H v => by
  obtain ⟨F, ρ, O, Dd, ok, env, td, x⟩ := v
  refine ⟨F, ρ, O, _, _, ok, env, td, fun J H' F' ds gd O' e ok' it q => ?_, x.xr env⟩
  refine ⟨fun i m σ1 H1 => ∃ F1 ρ1 O1, Same F' F1 ∧ OkS K H1 F1 O1 ∧ EnvOk K F1 σ1 ρ1 ∧ m = ds.length - i ∧ i ≤ ds.length ∧ forGo g b Dd gd (ds.drop i) ρ1 O1, ⟨_, F', ρ, O', Same.refl _, ok', env.mono e, rfl, Nat.zero_le _, q⟩, fun i m σ1 H1 hw => ?_⟩
  obtain ⟨F1, ρ1, O1, e1, ok1, env1, hm, hi, q1⟩ := hw
  cases hd : ds[i]? with
  | none =>
    have hl : ds.length ≤ i := List.getElem?_eq_none_iff.mp hd
    rw [List.drop_eq_nil_of_le hl] at q1
    exact .inl ⟨(it H1 F1 O1 e1 ok1 q1.1 i).2 hl, x.nx σ1 H1 F1 ρ1 O1 (e.trans e1) ok1 env1 q1.2⟩
  | some d =>
    obtain ⟨hlt, hget⟩ := List.getElem?_eq_some_iff.mp hd
    rw [List.drop_eq_getElem_cons hlt, hget] at q1
    obtain ⟨g1, g2⟩ := (it H1 F1 O1 e1 ok1 q1.1 i).1 d hd
    have q1 := q1.2
    refine .inr ⟨g1, fun σ2 H2 => ∃ F2 ρ2 O2, Same F' F2 ∧ OkS K H2 F2 O2 ∧ EnvOk K F2 σ2 ρ2 ∧ forGo g b Dd gd (ds.drop (i + 1)) ρ2 O2, fun σ2 H2 hw2 => ?_, fun xv H2 hy => ?_⟩
    · obtain ⟨F2, ρ2, O2, a1, a2, a3, a4⟩ := hw2
      exact ⟨ds.length - (i + 1), by omega, F2, ρ2, O2, a1, a2, a3, rfl, hlt, a4⟩
    · have fin : ∀ F2, Same F1 F2 → OkS K H2 F2 O1 → Rep K F2 d xv → upG K vs g xv σ1 H2 fun σ2 H3 => upS K W b { E with nx := fun σ2 H2 => ∃ F2 ρ2 O2, Same F' F2 ∧ OkS K H2 F2 O2 ∧ EnvOk K F2 σ2 ρ2 ∧ forGo g b Dd gd (ds.drop (i + 1)) ρ2 O2, ct := fun σ2 H2 => ∃ F2 ρ2 O2, Same F' F2 ∧ OkS K H2 F2 O2 ∧ EnvOk K F2 σ2 ρ2 ∧ forGo g b Dd gd (ds.drop (i + 1)) ρ2 O2, bk := E.nx } σ2 H3 := fun F2 e2 ok2 rd => by
        refine ⟨F2, ρ1, d, _, ok2.ex, env1.mono e2, rd, q1, fun σ2 ρ2 env2 _ q2 => ?_⟩
        have x2 := x.mono ((e.trans e1).trans e2)
        exact ⟨F2, ρ2, O1, _, ok2, env2, q2, ⟨fun σ3 H3 F3 ρ3 O3 e3 ok3 env3 q3 => ⟨F3, ρ3, O3, (e1.trans e2).trans e3, ok3, env3, q3⟩, x2.nx, fun σ3 H3 F3 ρ3 O3 e3 ok3 env3 q3 => ⟨F3, ρ3, O3, (e1.trans e2).trans e3, ok3, env3, q3⟩, x2.rt, x2.ex⟩⟩
      rcases g2 xv H2 hy with ⟨rfl, rd⟩ | ⟨p, o, hp, rfl, rd⟩
      · exact fin F1 (Same.refl _) ok1 rd
      · obtain ⟨ok2, e2⟩ := ok1.lay hp o
        exact fin _ e2 ok2 rd
theorem ds_for {vs : List Nat} {tg iter : Expr} {body : List Stmt} {wi : TDI} {g : DG} {b : TDS} (hp : PassesOwn (model X.prog X.w) X.A X.env X.xe) (hc : X.calm = true) (hi : DI X W tg iter wi) (hg : GP X vs tg g) (hb : DSs X W body b)
    (hs : ∀ x, foldedSetIterable iter X.env x = pure x := by intro _; rfl) : DS X W (.For tg iter body [] pos) (dFor wi g b) := ps_imp (ps_for hp hc hi hg hb hs) up_for
/-! ### while -/
def whGo (c : TDT) (b : TDS) (E : DEnds) : Nat → DEnv → DH → Prop
  | 0, _, _ => False
  | n + 1, ρ, O => c ρ O (fun k O1 => match k with
    | true => b { E with nx := whGo c b E n, ct := whGo c b E n, bk := E.nx } ρ O1
    | false => E.nx ρ O1) fun c f O' => E.ex c f ρ O'
def dWhile (c : TDT) (b : TDS) : TDS := fun E ρ O => ∃ n, whGo c b E n ρ O
theorem up_while {K : PySem.W.Frag} {c : TDT} {b : TDS} : ∀ E σ H, upS K W (dWhile c b) E σ H → tWhile (upT K W c) (upS K W b) E σ H := fun E σ H v => by
  obtain ⟨F, ρ, O, Dd, ok, env, ⟨n, td⟩, x⟩ := v
  refine ⟨fun m σ1 H1 => ∃ F1 ρ1 O1, Same F F1 ∧ OkS K H1 F1 O1 ∧ EnvOk K F1 σ1 ρ1 ∧ whGo c b Dd m ρ1 O1, ⟨n, F, ρ, O, Same.refl _, ok, env, td⟩, fun m σ1 H1 hw => ?_⟩
  obtain ⟨F1, ρ1, O1, e1, ok1, env1, q1⟩ := hw
  cases m with
  | zero => exact q1.elim
  | succ m =>
    refine ⟨F1, ρ1, O1, _, _, ok1, env1, q1, fun k H2 F2 O2 e2 ok2 q2 => ?_, (x.mono e1).xr env1⟩
    cases k with
    | false => exact iteF (x.nx σ1 H2 F2 ρ1 O2 (e1.trans e2) ok2 (env1.mono e2) q2)
    | true =>
      refine iteT ⟨fun σ2 H2 => ∃ F2 ρ2 O2, Same F F2 ∧ OkS K H2 F2 O2 ∧ EnvOk K F2 σ2 ρ2 ∧ whGo c b Dd m ρ2 O2, fun σ2 H2 hw2 => ⟨m, Nat.lt_succ_self m, hw2⟩, ?_⟩
      have x2 := x.mono (e1.trans e2)
      exact ⟨F2, ρ1, O2, _, ok2, env1.mono e2, q2, ⟨fun σ3 H3 F3 ρ3 O3 e3 ok3 env3 q3 => ⟨F3, ρ3, O3, (e1.trans e2).trans e3, ok3, env3, q3⟩, x2.nx, fun σ3 H3 F3 ρ3 O3 e3 ok3 env3 q3 => ⟨F3, ρ3, O3, (e1.trans e2).trans e3, ok3, env3, q3⟩, x2.rt, x2.ex⟩⟩
theorem ds_while {c : Expr} {body : List Stmt} {tc : TDT} {b : TDS} (hp : PassesOwn (model X.prog X.w) X.A X.env X.xe) (hc : DT X W c tc) (hb : DSs X W body b) : DS X W (.While c body [] pos) (dWhile tc b) := ps_imp (ps_while hp hc hb) up_while
end
end Dx
namespace Dx
open PySem L2
/-! ### list comprehensions -/
def dwipe (ρ : DEnv) : List Nat → DEnv
  | [] => ρ
  | i :: r => (dwipe ρ r).set i none
theorem EnvOk.wipe {K : PySem.W.Frag} {F : Hp} {σ : L2.St} {ρ : DEnv} (h : EnvOk K F σ ρ) : ∀ vs, EnvOk K F (L2.wipe σ vs) (dwipe ρ vs)
  | [] => h
  | i :: r => (EnvOk.wipe h r).unset i none
/-- what a turn makes: the element's place and value; ρ the slots around, wiped; the growing list stands at a -/
def lcGo (a : Addr) (g : DG) (tt : TDT) (te : TD) (ρ : DEnv) (E : XD) (gd : DH → Prop) (Q : List D → DH → Prop) : List D → List D → DH → Prop
  | [], acc, O => gd O ∧ Q acc O
  | d :: ds, acc, O => gd O ∧ g d ρ fun ρ1 => tt ρ1 O (fun k O1 => match k with
    | true => te ρ1 O1 (fun y O2 => O2 a = some (.lst acc) ∧ acc.length < sizeLine ∧ lcGo a g tt te ρ E gd Q ds (acc ++ [y]) (updO O2 a (.lst (acc ++ [y])))) E
    | false => O1 a = some (.lst acc) ∧ lcGo a g tt te ρ E gd Q ds acc O1) E
abbrev ENo : XD := fun _ _ _ => False
def dLcM (wi : TDI) (g : DG) (tt : TDT) (te : TD) (vs : List Nat) : TD := fun ρ O Q E => wi ρ O (fun ds gd O1 => ∀ a, O1 a = none → lcGo a g tt te (dwipe ρ vs) ENo gd (fun _ O2 => Q (.ref a) O2) ds [] (updO O1 a (.lst []))) E
def dLc (wi : TDI) (g : DG) (tt : TDT) (te : TD) (vs : List Nat) : TD := fun ρ O Q E => wi ρ O (fun ds gd O1 => ∀ a, O1 a = none → lcGo a g tt te (dwipe ρ vs) ENo gd (fun acc O2 => O2 a = some (.lst acc) ∧ ∃ O3, Sub O3 O2 ∧ O3 a = none ∧ Q (.lst acc) O3) ds [] (updO O1 a (.lst []))) E
def dYes : TDT := fun _ O Q _ => Q true O
abbrev WNo : WX := fun _ _ _ _ => False
section
variable {K : PySem.W.Frag} {W : WX} {wi : TDI} {g : DG} {tt : TDT} {te : TD} {vs : List Nat}
theorem up_lcG (fin : DEnv → DH → QD → Addr → List D → DH → Prop)
    (hfin : ∀ {H F : Hp} {O2 O0 : DH} {ρ : DEnv} {Qd : QD} {a : Addr} {acc : List D} {Q : VK} {F0 : Hp}, Same F0 F → OkS K H F O2 → fin ρ O0 Qd a acc O2 → (∀ v H' F' d O', Same F0 F' → Rep K F' d v → OkS K H' F' O' → Qd d O' → Q v H') → Q (.ref a) H) :
    ∀ σ H Q, (∃ F ρ O Qd Ed, OkS K H F O ∧ EnvOk K F σ ρ ∧ wi ρ O (fun ds gd O1 => ∀ a, O1 a = none → lcGo a g tt te (dwipe ρ vs) ENo gd (fin ρ O1 Qd a) ds [] (updO O1 a (.lst []))) Ed ∧ (∀ v H' F' d O', Same F F' → Rep K F' d v → OkS K H' F' O' → Qd d O' → Q v H') ∧ XRel K W F σ Ed) →
      tLc (upI K W wi) (upG K vs g) (upT K WNo tt) (up K WNo te) vs σ H Q := fun σ H Q u => by
  obtain ⟨F, ρ, O, Qd, Ed, ok, env, td, k, xr⟩ := u
  refine ⟨F, ρ, O, _, Ed, ok, env, td, fun J H' F' ds gd O' e ok' it q => ?_, xr⟩
  intro p hp
  have q0 := q p (ok'.freeO hp)
  have okp : OkS K (upd H' p (.lst [])) F' (updO O' p (.lst [])) := ok'.layM (m := .lst []) hp ⟨[], upd_same, .nil⟩
  refine ⟨fun i m H1 => ∃ F1 O1 acc, Same F' F1 ∧ OkS K H1 F1 O1 ∧ m = ds.length - i ∧ i ≤ ds.length ∧ O1 p = some (.lst acc) ∧ lcGo p g tt te (dwipe ρ vs) ENo gd (fin ρ O' Qd p) (ds.drop i) acc O1, ⟨_, F', _, [], Same.refl _, okp, rfl, Nat.zero_le _, updO_same, q0⟩, fun i m H1 hw => ?_⟩
  obtain ⟨F1, O1, acc, e1, ok1, hm, hi, ha, q1⟩ := hw
  cases hd : ds[i]? with
  | none =>
    have hl : ds.length ≤ i := List.getElem?_eq_none_iff.mp hd
    rw [List.drop_eq_nil_of_le hl] at q1
    exact .inl ⟨(it H1 F1 O1 e1 ok1 q1.1 i).2 hl, hfin (e.trans e1) ok1 q1.2 k⟩
  | some d =>
    obtain ⟨hlt, hget⟩ := List.getElem?_eq_some_iff.mp hd
    rw [List.drop_eq_getElem_cons hlt, hget] at q1
    obtain ⟨g1, g2⟩ := (it H1 F1 O1 e1 ok1 q1.1 i).1 d hd
    have q1 := q1.2
    refine .inr ⟨g1, fun H2 => ∃ F2 O2 acc2, Same F' F2 ∧ OkS K H2 F2 O2 ∧ O2 p = some (.lst acc2) ∧ lcGo p g tt te (dwipe ρ vs) ENo gd (fin ρ O' Qd p) (ds.drop (i + 1)) acc2 O2, fun H2 hw2 => ?_, fun xv H2 hy => ?_⟩
    · obtain ⟨F2, O2, acc2, a1, a2, a3, a4⟩ := hw2
      exact ⟨ds.length - (i + 1), by omega, F2, O2, acc2, a1, a2, rfl, hlt, a3, a4⟩
    · have fin2 : ∀ F2, Same F1 F2 → OkS K H2 F2 O1 → Rep K F2 d xv → upG K vs g xv (L2.wipe σ vs) H2 fun σ2 H2 => L2.wipe σ2 vs = L2.wipe σ vs ∧ upT K WNo tt σ2 H2 fun b H3 => if b = true then up K WNo te σ2 H3 fun y H4 => ∃ acc, H4 p = some (.lst acc) ∧ acc.length < sizeLine ∧ (fun H2 => ∃ F2 O2 acc2, Same F' F2 ∧ OkS K H2 F2 O2 ∧ O2 p = some (.lst acc2) ∧ lcGo p g tt te (dwipe ρ vs) ENo gd (fin ρ O' Qd p) (ds.drop (i + 1)) acc2 O2) (upd H4 p (.lst (acc ++ [y]))) else (fun H2 => ∃ F2 O2 acc2, Same F' F2 ∧ OkS K H2 F2 O2 ∧ O2 p = some (.lst acc2) ∧ lcGo p g tt te (dwipe ρ vs) ENo gd (fin ρ O' Qd p) (ds.drop (i + 1)) acc2 O2) H3 := fun F2 e2 ok2 rd => by
        refine ⟨F2, dwipe ρ vs, d, _, ok2.ex, (env.mono ((e.trans e1).trans e2)).wipe vs, rd, q1, fun σ2 ρ2 env2 hw2 q2 => ⟨?_, ?_⟩⟩
        · rw [hw2]
          have ww : ∀ (vs : List Nat) (σ : L2.St), L2.wipe (L2.wipe σ vs) vs = L2.wipe σ vs := by
            intro vs
            have : ∀ (ws : List Nat) (σ : L2.St), (∀ i ∈ ws, i ∈ vs) → L2.wipe (L2.wipe σ ws) vs = L2.wipe σ vs := by
              intro ws
              induction ws with
              | nil => intro σ _; rfl
              | cons i r ih =>
                intro σ h
                show L2.wipe ((L2.wipe σ r).set i none) vs = _
                rw [wipe_set (h i List.mem_cons_self)]
                exact ih σ fun j hj => h j (List.mem_cons_of_mem _ hj)
            exact fun σ => this vs σ fun _ h => h
          exact ww vs σ
        · refine ⟨F2, ρ2, O1, _, _, ok2, env2, q2, fun b H3 F3 O3 e3 ok3 q3 => ?_, fun _ _ _ _ _ _ _ _ _ z => z⟩
          cases b with
          | false => exact iteF ⟨F3, O3, acc, (e1.trans e2).trans e3, ok3, q3.1, q3.2⟩
          | true =>
            refine iteT ⟨F3, ρ2, O3, _, _, ok3, env2.mono e3, q3, fun y H4 F4 dy O4 e4 r4 ok4 q4 => ?_, fun _ _ _ _ _ _ _ _ _ z => z⟩
            obtain ⟨h4, hl4, q4⟩ := q4
            obtain ⟨xs, hx1, hx2⟩ := ok4.lst h4
            exact ⟨xs, hx1, by rw [← hx2.length]; exact hl4, F4, _, acc ++ [dy], ((e1.trans e2).trans e3).trans e4, ok4.put (m := .lst (acc ++ [dy])) h4 ⟨_, upd_same, hx2.append (.cons r4 .nil)⟩, updO_same, q4⟩
      rcases g2 xv H2 hy with ⟨rfl, rd⟩ | ⟨p2, o2, hp2, rfl, rd⟩
      · exact fin2 F1 (Same.refl _) ok1 rd
      · obtain ⟨ok2, e2⟩ := ok1.lay hp2 o2
        exact fin2 _ e2 ok2 rd
theorem up_lc : ∀ σ H Q, up K W (dLc wi g tt te vs) σ H Q → tLc (upI K W wi) (upG K vs g) (upT K WNo tt) (up K WNo te) vs σ H Q :=
  up_lcG (fun _ _ Q a acc O2 => O2 a = some (.lst acc) ∧ ∃ O3, Sub O3 O2 ∧ O3 a = none ∧ Q (.lst acc) O3) fun e ok ⟨h, O3, s, n, q⟩ k => by
    obtain ⟨F2, ok2, e2, r2⟩ := ok.frzL h s n
    exact k _ _ F2 _ O3 (e.trans e2) r2 ok2 q
theorem up_lcM : ∀ σ H Q, up K W (dLcM wi g tt te vs) σ H Q → tLc (upI K W wi) (upG K vs g) (upT K WNo tt) (up K WNo te) vs σ H Q :=
  up_lcG (fun _ _ Q a _ O2 => Q (.ref a) O2) fun e ok q k => k _ _ _ _ _ e (.ref _) ok q
end
section
variable {X : Cx} {W : WX} {elt tg iter : Expr} {ifs : List Expr} {scope : Scope} {own : List (Str × Nat)} {pos : Pos} {wi : TDI} {g : DG} {tt : TDT} {te : TD}
abbrev DTs (X : Cx) (W : WX) (ifs : List Expr) (t : TDT) : Prop := PTs X ifs (upT X.K W t)
theorem dts_nil : DTs X W [] dYes := ⟨fun pins s σ H Q I u => by
  obtain ⟨F, ρ, O, Qd, Ed, ok, env, td, k, _⟩ := u
  exact pts_nil.run pins s σ H Q I (k true H F O (Same.refl F) ok td)⟩
theorem dts_one {c : Expr} {t : TDT} (h : DT X W c t) : DTs X W [c] t := pts_one h
theorem de_lc (hc : X.calm = true) (hN : X.N.Nodup) (hi : DI X W tg iter wi) (ok : BlkOk X.N X.env.scope scope own)
    (hg : ∀ (s : Shared) (H : Hp) (C : Addr) (cl : List (Str × Addr)) (fp : List Addr), GP (X.blk s H scope (compEnvC scope cl C X.env) fp) (own.map (·.2)) tg g) (ht : ∀ (s : Shared) (H : Hp) (C : Addr) (cl : List (Str × Addr)) (fp : List Addr), DTs (X.blk s H scope (compEnvC scope cl C X.env) fp) WNo ifs tt)
    (he : ∀ (s : Shared) (H : Hp) (C : Addr) (cl : List (Str × Addr)) (fp : List Addr), DE (X.blk s H scope (compEnvC scope cl C X.env) fp) WNo elt te) (hs : ∀ x, foldedSetIterable iter X.env x = pure x := by intro _; rfl) :
    DE X W (.ListComp elt [⟨tg, iter, ifs, 0⟩] scope pos) (dLc wi g tt te (own.map (·.2))) := pe_imp (pe_lc hc hN hi ok hg ht he hs) up_lc
theorem de_lcM (hc : X.calm = true) (hN : X.N.Nodup) (hi : DI X W tg iter wi) (ok : BlkOk X.N X.env.scope scope own)
    (hg : ∀ (s : Shared) (H : Hp) (C : Addr) (cl : List (Str × Addr)) (fp : List Addr), GP (X.blk s H scope (compEnvC scope cl C X.env) fp) (own.map (·.2)) tg g) (ht : ∀ (s : Shared) (H : Hp) (C : Addr) (cl : List (Str × Addr)) (fp : List Addr), DTs (X.blk s H scope (compEnvC scope cl C X.env) fp) WNo ifs tt)
    (he : ∀ (s : Shared) (H : Hp) (C : Addr) (cl : List (Str × Addr)) (fp : List Addr), DE (X.blk s H scope (compEnvC scope cl C X.env) fp) WNo elt te) (hs : ∀ x, foldedSetIterable iter X.env x = pure x := by intro _; rfl) :
    DE X W (.ListComp elt [⟨tg, iter, ifs, 0⟩] scope pos) (dLcM wi g tt te (own.map (·.2))) := pe_imp (pe_lc hc hN hi ok hg ht he hs) up_lcM
end
end Dx
#check @L2.ps_setLc
#check @L2.sw_true
namespace Dx
open PySem L2
/-! ### y = [.. for ..] on one line -/
section
variable {X : Cx} {W : WX} {elt tg iter : Expr} {ifs : List Expr} {scope : Scope} {own : List (Str × Nat)} {pos spos py : Pos} {wi : TDI} {g : DG} {tt : TDT} {te : TD} {y : Str}
theorem up_asgT {K : PySem.W.Frag} {te : TE} {td : TD} {i : Nat} (h : ∀ σ H Q, up K W td σ H Q → te σ H Q) : ∀ E σ H, upS K W (dAsg td (gN i)) E σ H → tAsg te (gName i) E σ H := fun E σ H v => by
  obtain ⟨F, ρ, O, Dd, ok, env, t, x⟩ := v
  exact h σ H _ ⟨F, ρ, O, _, _, ok, env, t, fun v H' F' d O' e r ok' q => x.nx _ H' F' _ O' e ok' ((env.mono e).set r i) q, x.xr env⟩
theorem ds_setLc {i : Nat} (hc : X.calm = true) (hN : X.N.Nodup) (hi : DI X W tg iter wi) (ok : BlkOk X.N X.env.scope scope own)
    (hg : ∀ (s : Shared) (H : Hp) (C : Addr) (cl : List (Str × Addr)) (fp : List Addr), GP (X.blk s H scope (compEnvC scope cl C X.env) fp) (own.map (·.2)) tg g) (ht : ∀ (s : Shared) (H : Hp) (C : Addr) (cl : List (Str × Addr)) (fp : List Addr), DTs (X.blk s H scope (compEnvC scope cl C X.env) fp) WNo ifs tt)
    (he : ∀ (s : Shared) (H : Hp) (C : Addr) (cl : List (Str × Addr)) (fp : List Addr), DE (X.blk s H scope (compEnvC scope cl C X.env) fp) WNo elt te)
    (hy : X.N[i]? = some y := by rfl) (hyl : X.env.scope.names.lookup y = some .local := by rfl) (sw : swapsWith (.ListComp elt [⟨tg, iter, ifs, 0⟩] scope pos) (some (.Name y py)) spos.line X.env = pure true := by exact sw_true rfl rfl rfl (by decide +kernel)) (hs : ∀ x, foldedSetIterable iter X.env x = pure x := by intro _; rfl) :
    DS X W (.Assign [.Name y py] (.ListComp elt [⟨tg, iter, ifs, 0⟩] scope pos) spos) (dAsg (dLc wi g tt te (own.map (·.2))) (gN i)) := ps_imp (ps_setLc hc hN hy hyl sw hi ok hg ht he hs) (up_asgT up_lc)
theorem ds_setLcM {i : Nat} (hc : X.calm = true) (hN : X.N.Nodup) (hi : DI X W tg iter wi) (ok : BlkOk X.N X.env.scope scope own)
    (hg : ∀ (s : Shared) (H : Hp) (C : Addr) (cl : List (Str × Addr)) (fp : List Addr), GP (X.blk s H scope (compEnvC scope cl C X.env) fp) (own.map (·.2)) tg g) (ht : ∀ (s : Shared) (H : Hp) (C : Addr) (cl : List (Str × Addr)) (fp : List Addr), DTs (X.blk s H scope (compEnvC scope cl C X.env) fp) WNo ifs tt)
    (he : ∀ (s : Shared) (H : Hp) (C : Addr) (cl : List (Str × Addr)) (fp : List Addr), DE (X.blk s H scope (compEnvC scope cl C X.env) fp) WNo elt te)
    (hy : X.N[i]? = some y := by rfl) (hyl : X.env.scope.names.lookup y = some .local := by rfl) (sw : swapsWith (.ListComp elt [⟨tg, iter, ifs, 0⟩] scope pos) (some (.Name y py)) spos.line X.env = pure true := by exact sw_true rfl rfl rfl (by decide +kernel)) (hs : ∀ x, foldedSetIterable iter X.env x = pure x := by intro _; rfl) :
    DS X W (.Assign [.Name y py] (.ListComp elt [⟨tg, iter, ifs, 0⟩] scope pos) spos) (dAsg (dLcM wi g tt te (own.map (·.2))) (gN i)) := ps_imp (ps_setLc hc hN hy hyl sw hi ok hg ht he hs) (up_asgT up_lcM)
end
/-! ### defs -/
abbrev SpD := List D → DH → QD → XD → Prop
def upF (K : PySem.W.Frag) (sd : SpD) : Sp := fun vs H Q E => ∃ F O ds Qd Ed, OkS K H F O ∧ RepA K F ds vs ∧ sd ds O Qd Ed ∧ (∀ v H' F' d O', Same F F' → Rep K F' d v → OkS K H' F' O' → Qd d O' → Q v H') ∧
  (∀ cls dd H' F' fs O', Same F F' → ExcRep K F' dd fs → OkS K H' F' O' → Ed cls fs O' → E cls dd H')
/-- a def keeps its promise, where nothing is being shown by repr -/
structure FnG (P : Program) (w : World) (K : PySem.W.Frag) (mg : Str → Option Value) (base : Heap) (k : Nat) (f : Addr) (fd : FuncData) (ps : List Str) (sd : SpD) : Prop where
  len : ∀ ds O Q E, sd ds O Q E → ds.length = ps.length
  run : ∀ (A : Around) (outer : List Env) (s : Shared) (H : Hp) (args : Args) (us : List Value) (vs : List V) (Q : VK) (E : XK), Room k A → A.guards = some [] → Env0 P w K mg base A outer s H → BindsTo s fd args (ps.zip us) → Vals vs us → upF K sd vs H Q E →
    codeAny (model P w) A (.call (.ref f) args) (CR (L2.CX P w) outer P w H s Q E) s
section
variable {P : Program} {w : World} {K : PySem.W.Frag} {mg : Str → Option Value} {base : Heap} {k j : Nat} {f : Addr} {fd : FuncData} {ps : List Str} {sd sd' : SpD}
theorem FnG.up_ (G : FnG P w K mg base j f fd ps sd) (h : j ≤ k) : FnG P w K mg base k f fd ps sd := ⟨G.len, fun A outer s H args us vs Q E hr => G.run A outer s H args us vs Q E (hr.mono h)⟩
theorem FnG.imp (G : FnG P w K mg base k f fd ps sd) (h : ∀ ds O Q E, sd' ds O Q E → sd ds O Q E) : FnG P w K mg base k f fd ps sd' :=
  ⟨fun ds O Q E q => G.len ds O Q E (h _ _ _ _ q), fun A outer s H args us vs Q E hr hg he hb hv hs => G.run A outer s H args us vs Q E hr hg he hb hv (by
    obtain ⟨F, O, ds, Qd, Ed, h1, h2, h3, h4, h5⟩ := hs
    exact ⟨F, O, ds, Qd, Ed, h1, h2, h _ _ _ _ h3, h4, h5⟩)⟩
end
/-- where a def's body stands -/
abbrev dX (P : Program) (w : World) (K : PySem.W.Frag) (mg : Str → Option Value) (base : Heap) (N : List Str) (qual : Str) (scope : Scope) (f : Addr) (cdv : Value) (A : Around) (outer : List Env) (s : Shared) (H : Hp) (E : XK) : Cx := cxOf (L2.CX P w) P w K mg base N qual scope f cdv A outer s H E
abbrev wE (E : XK) : WX := fun cls d _ H => E cls d H
def Der (P : Program) (w : World) (K : PySem.W.Frag) (mg : Str → Option Value) (base : Heap) (N : List Str) (qual : Str) (scope : Scope) (body : List Stmt) (k : Nat) (td : TDS) : Prop :=
  ∀ (f : Addr) (cdv : Value) (A : Around) (outer : List Env) (s : Shared) (H : Hp) (E : XK), Room k (dX P w K mg base N qual scope f cdv A outer s H E).A → (dX P w K mg base N qual scope f cdv A outer s H E).A.guards = some [] →
    DSs (dX P w K mg base N qual scope f cdv A outer s H E) (wE E) body td
def ends (Q : QD) (E : XD) : DEnds where
  nx := fun _ O => ∃ O2, Sub O2 O ∧ Q .non O2
  rt := Q
  bk := fun _ _ => False
  ct := fun _ _ => False
  ex := fun c f _ O => ∃ O2, Sub O2 O ∧ E c f O2
def dstart (n : Nat) (ds : List D) : DEnv := ds.map some ++ List.replicate (n - ds.length) none
theorem start_env {K : PySem.W.Frag} {F : Hp} {N : List Str} {ds : List D} {vs : List V} (r : RepA K F ds vs) : EnvOk K F (L2.start N vs) (dstart N.length ds) := by
  refine ⟨?_, fun i d h => ?_⟩
  · unfold L2.start dstart
    simp [r.length]
  · unfold dstart at h
    unfold L2.start
    by_cases hi : i < ds.length
    · rw [List.getElem?_append_left (by simpa using hi)] at h
      rw [List.getElem?_append_left (by rw [List.length_map, ← r.length]; exact hi)]
      rw [List.getElem?_map] at h ⊢
      cases hd : ds[i]? with
      | none => rw [hd] at h; cases h
      | some d' =>
        rw [hd] at h
        cases h
        obtain ⟨v, hv, rv⟩ := r.get hd
        exact ⟨v, by rw [hv]; rfl, rv⟩
    · rw [List.getElem?_append_right (by simpa using hi), List.getElem?_replicate] at h
      split at h <;> cases h
section
variable {P : Program} {w : World} {K : PySem.W.Frag} {mg : Str → Option Value} {base : Heap} {k : Nat} {f : Addr} {fd : FuncData} {x qual : Str} {params : Arguments} {body : List Stmt} {scope : Scope} {dvs : List V} {kws : List (Str × V)} {N ps : List Str} {sd : SpD} {td : TDS}
/-- THE RULE for a def: its body's reading td, and that td keeps the promise -/
theorem FnG.of (F : FunD K x qual params body scope dvs kws f fd) (S : FnScope N ps scope) (hd : Der P w K mg base N qual scope body k td) (len : ∀ ds O Q E, sd ds O Q E → ds.length = ps.length)
    (hr : ∀ ds O Q E, sd ds O Q E → td (ends Q E) (dstart N.length ds) O) : FnG P w K mg base (k + 1) f fd ps sd := by
  obtain ⟨oc, od, dV, kV, doc, pm, an, cdv, ct, osl, rfl, lk, hcd, _, _⟩ := F.ex
  refine ⟨len, fun A outer s H args us vs Q E rm gd e0 hb r hsp => ?_⟩
  obtain ⟨F0, O, ds, Qd, Ed, ok, ra, q, k1, k2⟩ := hsp
  have hl : vs.length = ps.length := by rw [← ra.length]; exact len _ _ _ _ q
  have KX : K.In s.heap := e0.mod.kin.keeps fun b o e => (e0.bs b o e).1
  have lim : s.heap.NoLimit := e0.mod.nolimit.keeps fun b o e => (e0.bs b o e).1
  have kinds : ∀ y ∈ ps.zip us, scope.names.lookup y.1 = some .local ∨ (scope.names.lookup y.1 = some .cell ∧ ((cellsFrom (s.heap.objs.size + 1) scope.names []).lookup y.1).isSome = true) := by
    rintro ⟨n, v⟩ hy
    cases S.par n (List.of_mem_zip hy).1 with
    | inl z => exact .inl z
    | inr z => exact .inr ⟨z, PySem.W.cellsFrom_some _ _ _ (.inl z)⟩
  refine codeAny_call_function rm.depth (KX _ _ lk) rfl S.co S.gen rfl (PySem.W.codeRec_of KX hcd) (hb _ _ _ _ (wpAny_newFunctionEnv_cells S.kind kinds fun env he s1 ic => ?_))
  subst he
  refine ⟨lim.keeps ic.toInCall.keep, codeAny_func ?_⟩
  have I := inv_start (CX := L2.CX P w) (E := E) S rm.hd e0 hl r ic
  have go := (hd f cdv A outer s H E (rm.deeper _) gd).run [] s1 (L2.start N vs) H { nx := fun _ H' => Q .non H', rt := Q } I
    ⟨F0, dstart N.length ds, O, ends Qd Ed, ok, start_env ra, hr ds O Qd Ed q, ⟨fun σ' H' F' ρ' O' e ok' _ ⟨O2, s, q⟩ => k1 .non H' F' .non O2 e .non (ok'.less s) q, fun _ _ _ _ _ _ _ _ z => z, fun _ _ _ _ _ _ _ _ z => z, fun v H' F' d O' e r ok' q => k1 v H' F' d O' e r ok' q,
      fun cls dd σ' H' F' fs ρ' O' e r ok' _ ⟨O2, s, q⟩ => k2 cls dd H' F' fs O2 e r (ok'.less s) q⟩⟩
  refine wpAny_mono go (fun fl s' hs => ?_) fun e s' hs => hs
  cases fl with
  | ret u => obtain ⟨v, σ', H', J, rv, q⟩ := hs; exact ⟨v, H', J.os, J.bare, J.base, J.hok, rv, q⟩
  | next => obtain ⟨σ', H', J, q⟩ := hs; exact ⟨V.non, H', J.os, J.bare, J.base, J.hok, rfl, q⟩
  | brk => obtain ⟨_, _, _, q⟩ := hs; exact q.elim
  | cont => obtain ⟨_, _, _, q⟩ := hs; exact q.elim
end
/-! ### how arguments come to parameters -/
theorem RepA.pair {K : PySem.W.Frag} {F : Hp} : ∀ {ds : List D} {vs : List V}, RepA K F ds vs → Paired (Rep K F) ds vs
  | _, _, .nil => .nil
  | _, _, .cons h r => .cons h (RepA.pair r)
theorem RepA.ofP {K : PySem.W.Frag} {F : Hp} : ∀ {ds : List D} {vs : List V}, Paired (Rep K F) ds vs → RepA K F ds vs
  | _, _, .nil => .nil
  | _, _, .cons h r => .cons h (RepA.ofP r)
abbrev Mix := {α : Type} → List α → List α → List α → List α
/-- n positional values, keywords named ks; g puts them, and the defaults, in the parameters' order -/
structure Bnd (K : PySem.W.Frag) (fd : FuncData) (ps : List Str) (n : Nat) (ks : List Str) (gD : List D → List D → List D) : Prop where
  to : ∀ (F : Hp) (ds es : List D) (vs zs : List V) (us ws : List Value) (s : Shared), K.In s.heap → RepA K F ds vs → Vals vs us → ds.length = n → RepA K F es zs → Vals zs ws → es.length = ks.length →
    ∃ vs' us', RepA K F (gD ds es) vs' ∧ Vals vs' us' ∧ BindsTo s fd ⟨us, ks.zip ws⟩ (ps.zip us')
section
variable {K : PySem.W.Frag} {x qual : Str} {params : Arguments} {body : List Stmt} {scope : Scope} {dvs : List V} {kws : List (Str × V)} {f : Addr} {fd : FuncData} {ps : List Str}
theorem bnd0 (F : FunD K x qual params body scope [] kws f fd) (n : Nat) (ks : List Str) (g : Mix)
    (hrel : ∀ {α β : Type} {R : α → β → Prop} {a c : List α} {b d : List β}, Paired R a b → a.length = n → Paired R c d → c.length = ks.length → Paired R (g a [] c) (g b [] d))
    (h : ∀ (kV doc pm : Value) (an : Option Addr) (cdv ct : Value) (us ws : List Value), us.length = n → ws.length = ks.length → bindArgs (PySem.W.fnOf x qual params body scope .none kV doc pm an cdv ct) ⟨us, ks.zip ws⟩ = pure (ps.zip (g us [] ws))) :
    Bnd K fd ps n ks (fun ds es => g ds [] es) := ⟨fun F0 ds es vs zs us ws s X r1 v1 l1 r2 v2 l2 => by
  obtain ⟨oc, od, dV, kV, doc, pm, an, cdv, ct, osl, rfl, lk, hcd, hD, hK⟩ := F.ex
  rcases hD with ⟨_, rfl⟩ | ⟨e, _⟩
  · have l1' : vs.length = n := by rw [← r1.length]; exact l1
    have l2' : zs.length = ks.length := by rw [← r2.length]; exact l2
    exact ⟨_, _, .ofP (hrel r1.pair l1 r2.pair l2), hrel v1 l1' v2 l2', .of_eq (h kV doc pm an cdv ct us ws (by rw [← v1.length]; exact l1') (by rw [← v2.length]; exact l2'))⟩
  · exact absurd rfl e⟩
theorem bnd1 (F : FunD K x qual params body scope dvs kws f fd) (dds : List D) (hdd : ∀ F, RepA K F dds dvs) (hne : dvs ≠ []) (n : Nat) (ks : List Str) (g : Mix)
    (hrel : ∀ {α β : Type} {R : α → β → Prop} {a c e : List α} {b d e' : List β}, Paired R a b → a.length = n → Paired R e e' → e.length = dvs.length → Paired R c d → c.length = ks.length → Paired R (g a e c) (g b e' d))
    (h : ∀ (T : Addr) (kV doc pm : Value) (an : Option Addr) (cdv ct : Value) (us its ws : List Value), us.length = n → its.length = dvs.length → ws.length = ks.length →
      ∃ k, bindArgs (PySem.W.fnOf x qual params body scope (.ref T) kV doc pm an cdv ct) ⟨us, ks.zip ws⟩ = seqItems? (.ref T) >>= k ∧ k (some its.toArray) = pure (ps.zip (g us its ws))) :
    Bnd K fd ps n ks (fun ds es => g ds dds es) := ⟨fun F0 ds es vs zs us ws s X r1 v1 l1 r2 v2 l2 => by
  obtain ⟨oc, od, dV, kV, doc, pm, an, cdv, ct, osl, rfl, lk, hcd, hD, hK⟩ := F.ex
  rcases hD with ⟨e, _⟩ | ⟨_, T, o, its, m, rfl, lT, oT, rT⟩
  · exact absurd e hne
  · have l1' : vs.length = n := by rw [← r1.length]; exact l1
    have l2' : zs.length = ks.length := by rw [← r2.length]; exact l2
    have l3 : its.length = dvs.length := rT.length.symm
    obtain ⟨k, e1, e2⟩ := h T kV doc pm an cdv ct us its ws (by rw [← v1.length]; exact l1') l3 (by rw [← v2.length]; exact l2')
    have l4 : dds.length = dvs.length := (hdd F0).length
    refine ⟨_, _, .ofP (hrel r1.pair l1 (hdd F0).pair l4 r2.pair l2), hrel v1 l1' rT rfl v2 l2', BindsTo.of_looks fun M => ?_⟩
    rw [e1]
    exact looks_items X lT oT (.of_pure e2)⟩
end
/-! ### calls of own defs -/
def dNoK : TDA := dNil
/-- f(..): positional arguments, keywords -/
def dCall (sd : SpD) (n m : Nat) (gD : List D → List D → List D) (tr tk : TDA) : TD := fun ρ O Q E => tr ρ O (fun ds O1 => tk ρ O1 (fun es O2 => ds.length = n ∧ es.length = m ∧ sd (gD ds es) O2 Q E) E) E
abbrev DK (X : Cx) (W : WX) (kws : List Keyword) (td : TDA) : Prop := PK X kws (upA X.K W td)
section
variable {X : Cx} {W : WX} {k n : Nat} {f C : Addr} {fd : FuncData} {ps ks : List Str} {sd : SpD} {x m : Str} {p pos apos kpos : Pos} {e o : Expr} {es : List Expr} {kws : List Keyword} {ta : TD} {tr tk : TDA} {gD : List D → List D → List D} {nm : Option Str}
theorem dk_nil : DK X W [] dNil := ⟨fun pos pins s σ H Q I u => by
  obtain ⟨F, ρ, O, Qd, Ed, ok, env, td, k, xr⟩ := u
  exact pk_nil.run pos pins s σ H Q I (k [] H F [] O (Same.refl F) .nil ok td)⟩
theorem dk_cons (ha : DE X W e ta) (hr : DK X W kws tr) : DK X W (⟨nm, e, kpos⟩ :: kws) (dCons ta tr) := ⟨fun pos pins s σ H Q I u => by
  refine (pk_cons (nm := nm) (kpos := kpos) ha hr).run pos pins s σ H Q I ?_
  obtain ⟨F, ρ, O, Qd, Ed, ok, env, td, k, xr⟩ := u
  refine ⟨F, ρ, O, _, Ed, ok, env, td, fun v H1 F1 d O1 e1 r1 ok1 q1 => ?_, xr⟩
  exact ⟨F1, ρ, O1, _, Ed, ok1, env.mono e1, q1, fun vs H2 F2 ds O2 e2 r2 ok2 q2 => k _ H2 F2 _ O2 (e1.trans e2) (.cons (r1.mono e2) r2) ok2 q2, xr.mono e1⟩⟩
theorem runG {pins : List (Addr × Obj)} {σ : St} {H : Hp} {s : Shared} {Q : VK} {us : List Value} {args : Args} {vs : List V} (G : FnG X.prog X.w X.K X.mg X.base k f fd ps sd) (hr : Room k X.A) (hgd : X.A.guards = some []) (tk : Takes X W)
    (I : Inv X pins σ H s) (b : BindsTo s fd args (ps.zip us)) (r : Vals vs us) (h : upF X.K sd vs H Q (WE W σ)) : codeAny (model X.prog X.w) X.A (.call (.ref f) args) (fun r s' => match r with
      | .ok (.ret u) => EP X pins σ Q u s'
      | .ok _ => False
      | .error e => X.xe e s') s := by
  refine codeAny_mono (G.run X.A X.stack s H args us vs Q (WE W σ) hr hgd I.env0 b r h) fun r s' hq => ?_
  cases r with
  | error e => exact passAt tk σ pins H s e s' I hq
  | ok fl =>
    cases fl with
    | ret u => exact I.after hq
    | next => exact hq
    | brk => exact hq
    | cont => exact hq
/-- the callee by values -/
theorem runGv {pins : List (Addr × Obj)} {σ : St} {H F : Hp} {O : DH} {s : Shared} {us ws : List Value} {vs zs : List V} {ds ees : List D} {Q : VK} {Qd : QD} {Ed : XD} (G : FnG X.prog X.w X.K X.mg X.base k f fd ps sd) (hr : Room k X.A) (hgd : X.A.guards = some []) (tk : Takes X W) (hb : Bnd X.K fd ps n ks gD)
    (I : Inv X pins σ H s) (r : Vals vs us) (rz : Vals zs ws) (ok : OkS X.K H F O) (rd : RepA X.K F ds vs) (re : RepA X.K F ees zs) (hn : ds.length = n) (hm : ees.length = ks.length) (q : sd (gD ds ees) O Qd Ed)
    (k1 : ∀ v H' F' d O', Same F F' → Rep X.K F' d v → OkS X.K H' F' O' → Qd d O' → Q v H') (xr : XRel X.K W F σ Ed) : wpAny (model X.prog X.w) X.A (call (.ref f) us (ks.zip ws)) (EP X pins σ Q) X.xe s := by
  obtain ⟨vs', us', h1, h2, h3⟩ := hb.to F ds ees vs zs us ws s I.kIn rd r hn re rz hm
  refine wpAny_call (codeAny_mono (runG G hr hgd tk I h3 h2 ⟨F, O, _, Qd, Ed, ok, h1, q, k1, fun cls dd H' F' fs O' e r ok q => xr cls dd H' F' fs O' e r ok q⟩) fun r s' hq => ?_)
  cases r with
  | error e => exact hq
  | ok fl =>
    cases fl with
    | ret u => exact hq
    | next => exact hq.elim
    | brk => exact hq.elim
    | cont => exact hq.elim
theorem de_call (G : FnG X.prog X.w X.K X.mg X.base k f fd ps sd) (hr : Room k X.A) (hgd : X.A.guards = some []) (tk : Takes X W) (hg : Gl X x) (hm : X.mg x = some (.ref f)) (hk : PySem.W.keepIn X.K (.ref f) = true) (hb : Bnd X.K fd ps n [] gD) (ha : DA X W (e :: es) tr)
    (hdb : (x == ("__debug__" : Str)) = false := by decide) (he : starEach (e :: es) X.env = (false, eval e X.env) :: starEach es X.env := by rfl) (hpl : (backTo pos (starEach es X.env)).any (·.1) = false := by rfl) :
    DE X W (.Call (.Name x p) (e :: es) [] pos) (dCall sd n 0 gD tr dNil) := ⟨fun pins s σ H Q I u => by
  obtain ⟨F, ρ, O, Qd, Ed, ok, env, td, k1, xr⟩ := u
  refine wpAny_Call_Name_kw (ld_glob I hg hm ?_ hdb)
  refine PySem.W.callWith_K (h₀ := X.base) I.ok.mod.kin hk (thn (ha.run pos pins s σ H (fun vs H1 => ∃ F1 ds O1, Same F F1 ∧ RepA X.K F1 ds vs ∧ OkS X.K H1 F1 O1 ∧ dNil ρ O1 (fun es O2 => ds.length = n ∧ es.length = 0 ∧ sd (gD ds es) O2 Qd Ed) Ed) I ⟨F, ρ, O, _, Ed, ok, env, td, fun vs H1 F1 ds O1 e1 r1 ok1 q1 => ⟨F1, ds, O1, e1, r1, ok1, q1⟩, xr⟩) fun us s1 hq => ?_) he hpl
  obtain ⟨vs, H1, I1, rv, F1, ds, O1, e1, r1, ok1, hn, hz, q⟩ := hq
  exact ⟨I1.kIn, runGv (ks := []) (ws := []) (zs := []) (ees := []) G hr hgd tk hb I1 rv .nil ok1 r1 .nil hn rfl q (fun v H' F' d O' e => k1 v H' F' d O' (e1.trans e)) (xr.mono e1)⟩⟩
theorem de_call0 (G : FnG X.prog X.w X.K X.mg X.base k f fd ps sd) (hr : Room k X.A) (hgd : X.A.guards = some []) (tk : Takes X W) (hg : Gl X x) (hm : X.mg x = some (.ref f)) (hk : PySem.W.keepIn X.K (.ref f) = true) (hb : Bnd X.K fd ps 0 [] gD)
    (hdb : (x == ("__debug__" : Str)) = false := by decide) : DE X W (.Call (.Name x p) [] [] pos) (dCall sd 0 0 gD dNil dNil) := ⟨fun pins s σ H Q I u => by
  obtain ⟨F, ρ, O, Qd, Ed, ok, env, ⟨_, _, q⟩, k1, xr⟩ := u
  refine wpAny_Call_Name_kw (ld_glob I hg hm ?_ hdb)
  exact PySem.W.callWith_K0 I.kIn hk (runGv (ks := []) (us := []) (ws := []) (vs := []) (zs := []) (ds := []) (ees := []) G hr hgd tk hb I .nil .nil ok .nil .nil rfl rfl q k1 xr)⟩
theorem de_callK (G : FnG X.prog X.w X.K X.mg X.base k f fd ps sd) (hr : Room k X.A) (hgd : X.A.guards = some []) (tk0 : Takes X W) (hg : Gl X x) (hm : X.mg x = some (.ref f)) (hk : PySem.W.keepIn X.K (.ref f) = true) (hb : Bnd X.K fd ps n ks gD) (ha : DA X W (e :: es) tr) (hkw : DK X W kws tk)
    (hall : (backToKw pos (keywordEach kws X.env)).all (·.1.isSome) = true := by rfl) (hks : (backToKw pos (keywordEach kws X.env)).filterMap (·.1) = ks := by rfl)
    (hdb : (x == ("__debug__" : Str)) = false := by decide) (he : starEach (e :: es) X.env = (false, eval e X.env) :: starEach es X.env := by rfl)
    (hpl : ((backTo pos (starEach (e :: es) X.env)).any (·.1) || (backToKw pos (keywordEach kws X.env)).any (·.1.isNone)) = false := by rfl) :
    DE X W (.Call (.Name x p) (e :: es) kws pos) (dCall sd n ks.length gD tr tk) := ⟨fun pins s σ H Q I u => by
  obtain ⟨F, ρ, O, Qd, Ed, ok, env, td, k1, xr⟩ := u
  refine wpAny_Call_Name_kw (ld_glob I hg hm ?_ hdb)
  refine PySem.W.callWith_KW (h₀ := X.base) I.ok.mod.kin hk hall (thn (ha.run pos pins s σ H (fun vs H1 => ∃ F1 ds O1, Same F F1 ∧ RepA X.K F1 ds vs ∧ OkS X.K H1 F1 O1 ∧ tk ρ O1 (fun es O2 => ds.length = n ∧ es.length = ks.length ∧ sd (gD ds es) O2 Qd Ed) Ed) I ⟨F, ρ, O, _, Ed, ok, env, td, fun vs H1 F1 ds O1 e1 r1 ok1 q1 => ⟨F1, ds, O1, e1, r1, ok1, q1⟩, xr⟩) fun us s1 hq => ?_) hpl he
  obtain ⟨vs, H1, I1, rv, F1, ds, O1, e1, r1, ok1, q1⟩ := hq
  refine thn (hkw.run pos pins s1 σ H1 (fun zs H2 => ∃ F2 ees O2, Same F1 F2 ∧ RepA X.K F2 ees zs ∧ OkS X.K H2 F2 O2 ∧ ds.length = n ∧ ees.length = ks.length ∧ sd (gD ds ees) O2 Qd Ed) I1 ⟨F1, ρ, O1, _, Ed, ok1, env.mono e1, q1, fun zs H2 F2 ees O2 e2 r2 ok2 q2 => ⟨F2, ees, O2, e2, r2, ok2, q2⟩, xr.mono e1⟩) fun ws s2 hq2 => ?_
  obtain ⟨zs, H2, I2, rz, F2, ees, O2, e2, r2, ok2, hn, hz, q⟩ := hq2
  refine ⟨I2.kIn, ?_⟩
  rw [hks]
  exact runGv G hr hgd tk0 hb I2 rv rz ok2 (r1.mono e2) r2 hn hz q (fun v H' F' d O' e => k1 v H' F' d O' ((e1.trans e2).trans e)) (xr.mono (e1.trans e2))⟩
theorem de_callN (G : FnG X.prog X.w X.K X.mg X.base k f fd ps sd) (hr : Room k X.A) (hgd : X.A.guards = some []) (tk0 : Takes X W) (hg : Gl X x) (hm : X.mg x = some (.ref f)) (hk : PySem.W.keepIn X.K (.ref f) = true) (hb : Bnd X.K fd ps 0 ks gD) (hkw : DK X W kws tk)
    (hall : (backToKw pos (keywordEach kws X.env)).all (·.1.isSome) = true := by rfl) (hks : (backToKw pos (keywordEach kws X.env)).filterMap (·.1) = ks := by rfl)
    (hdb : (x == ("__debug__" : Str)) = false := by decide) (hpl : ((backTo pos (starEach [] X.env)).any (·.1) || (backToKw pos (keywordEach kws X.env)).any (·.1.isNone)) = false := by rfl) :
    DE X W (.Call (.Name x p) [] kws pos) (dCall sd 0 ks.length gD dNil tk) := ⟨fun pins s σ H Q I u => by
  obtain ⟨F, ρ, O, Qd, Ed, ok, env, td, k1, xr⟩ := u
  refine wpAny_Call_Name_kw (ld_glob I hg hm ?_ hdb)
  refine PySem.W.callWith_KW0 (h₀ := X.base) I.ok.mod.kin hk hall ?_ hpl
  refine thn (hkw.run pos pins s σ H (fun zs H2 => ∃ F2 ees O2, Same F F2 ∧ RepA X.K F2 ees zs ∧ OkS X.K H2 F2 O2 ∧ ([] : List D).length = 0 ∧ ees.length = ks.length ∧ sd (gD [] ees) O2 Qd Ed) I ⟨F, ρ, O, _, Ed, ok, env, td, fun zs H2 F2 ees O2 e2 r2 ok2 q2 => ⟨F2, ees, O2, e2, r2, ok2, q2⟩, xr⟩) fun ws s2 hq2 => ?_
  obtain ⟨zs, H2, I2, rz, F2, ees, O2, e2, r2, ok2, hn, hz, q⟩ := hq2
  refine ⟨I2.kIn, ?_⟩
  rw [hks]
  exact runGv (us := []) (vs := []) (ds := []) G hr hgd tk0 hb I2 .nil rz ok2 .nil r2 rfl hz q (fun v H' F' d O' e => k1 v H' F' d O' (e2.trans e)) (xr.mono e2)⟩
end
end Dx
namespace Dx
open PySem L2 PySem.Spec PyProof.Rows
theorem repA_ints {K : PySem.W.Frag} {F : Hp} : ∀ ns : List Int, RepA K F (ns.map D.int) (ns.map V.int)
  | [] => .nil
  | n :: r => .cons (.int n) (repA_ints r)
abbrev noO : DH := fun _ => none
/-- what the law's def is asked -/
def LawSp (sd : SpD) (n : Nat) : Prop := ∀ ns : List Int, ns.length ≤ n → (∀ i ∈ ns, PySem.Builtin.Int.intBits i ≤ 1048576) → sd [.wl (ns.map .int)] noO (fun d _ => d = .bl true) (fun _ _ _ => False)
/-- the law is called, over one heap of what is tracked -/
theorem law_go {P : Program} {w : World} {K : PySem.W.Frag} {mg mb : Str → Option Value} {k : Nat} {fa a : Addr} {fd : FuncData} {x : Str} {sd : SpD} {st : Shared} {vs : List Value} {ns : List Int} {H : Hp}
    (kin : K.In st.heap) (gns : st.heap.Ns mainGlobals mg) (bns : st.heap.Ns builtinsNs mb) (hmb : ∀ y : Str, y ≠ "__name__" → mb y = bootBuiltins y) (lim : st.heap.NoLimit) (ng : st.gens = #[])
    (obj : st.heap.get? a = some { cls := .type "list", data := .seq vs.toArray }) (rm : Room k callerA) (G : ∀ b : Heap, K.In b → b.Ns mainGlobals mg → FnG P w K mg b k fa fd [x] sd)
    (bd : ∀ (s : Shared) (u : Value), BindsTo s fd ⟨[u], []⟩ [(x, u)]) (q : sd [.wl (ns.map .int)] noO (fun d _ => d = .bl true) (fun _ _ _ => False))
    (alone : ∀ b, H b = none ∨ (b = a ∧ K.lookup a = none ∧ H a = some (.frz { cls := .type "list", data := .seq vs.toArray } (.lst (ns.map V.int))))) (sq : SqL K H a (ns.map V.int)) (hok : HOk P w H st.heap) :
    codeAny (model P w) callerA (.call (.ref fa) ⟨[.ref a], []⟩) (fun r s' => r = .ok (.ret (.bool true)) ∧ OldK st.heap s'.heap ∧ s'.os = st.os ∧ AllBare s'.gens) st := by
  have hid : ∀ {b : Addr} {o : Obj}, st.heap.get? b = some o → b ≠ a → (hidT st.heap H).get? b = some o := fun {b o} e ne => hidT_get e (by
    rcases alone b with z | z
    · exact z
    · exact absurd z.1 ne)
  have keepNs : ∀ {b : Addr} {m : Str → Option Value}, st.heap.Ns b m → (hidT st.heap H).Ns b m := fun {b m} z => by
    obtain ⟨o, es, ep, e, dt, more⟩ := z
    refine ⟨o, es, ep, hid e fun eq => ?_, dt, more⟩
    rw [eq, obj] at e
    cases e
    cases (show Data.seq vs.toArray _ = Data.dict es ep from dt)
  have inK : K.In (hidT st.heap H) := fun b o e => by
    rcases alone b with z | ⟨rfl, z, _⟩
    · exact hidT_get (kin b o e) z
    · rw [z] at e; cases e
  have hm : Mod K mg (hidT st.heap H) := ⟨inK, keepNs gns, ⟨mb, keepNs bns, hmb⟩, by obtain ⟨mc, l1, l2⟩ := lim; exact ⟨mc, keepNs l1, l2⟩⟩
  have env : Env0 P w K mg (hidT st.heap H) callerA [] st H := ⟨rfl, hm, fun b o e => of_hidT e, Nat.le_of_eq (hidT_size _ _), trivial, fun b hb => absurd hb (by simp [frs]), hok, .of_eq ng⟩
  have arg : upF K sd [.ref a] H (fun v _ => v = .bl true) (fun _ _ _ => False) :=
    ⟨H, noO, _, _, _, ⟨Same.refl H, fun _ _ z => nomatch z⟩, .cons (.wl sq (repA_ints ns)) .nil, q, fun v H' F' d O' _ r _ e => by subst e; cases r; rfl, fun _ _ _ _ _ _ _ _ _ z => z⟩
  refine codeAny_mono ((G _ inK (keepNs gns)).run callerA [] st H ⟨[.ref a], []⟩ [.ref a] [.ref a] _ _ rm rfl env (bd st (.ref a)) (.cons rfl .nil) arg) fun r s' fin => ?_
  match r, fin with
  | .ok (.ret u), ⟨v, H', os, bare, un, hok', rv, e⟩ =>
    have e' : v = V.bl true := e
    subst e'
    have eu : u = Value.bool true := rv
    subst eu
    refine ⟨rfl, OldK.of_keep fun b o hb => ?_, os, bare⟩
    rcases alone b with z | ⟨rfl, _, z⟩
    · exact un.keep b o hb z (by simp [frs]) (by simp)
    · obtain ⟨g1, _⟩ := hok _ _ z
      obtain ⟨g2, _⟩ := hok' _ _ (un.frzs _ _ _ z)
      rw [hb] at g1
      cases g1
      exact g2
  | .error e, fin => obtain ⟨_, _, _, _, _, _, _, _, _, _, _, _, z⟩ := fin; exact z.elim
/-- the end of a law row over such a promise -/
theorem dwalk {l : PySem.W.OpenLaw} {n k : Nat} {q : Program} {loose : List Str} {XP : (Str → Option Value) → Heap → Prop} {YP : World → Heap → Prop} {d : DefRec} {x : Str}
    (hn : l.most = some n) (hn2 : n ≤ sizeLine) (hdf : d.params.defaults = []) (hr : Room k callerA)
    (F : ∀ (w : World) (mg : Str → Option Value) (fa : Addr) (h : Heap), YP w h → h.Ns mainGlobals mg → mg d.name = some (.ref fa) →
      ∃ (K : PySem.W.Frag) (fd : FuncData) (sd : SpD), K.In h ∧ (∀ (s : Shared) (u : Value), BindsTo s fd ⟨[u], []⟩ [(x, u)]) ∧ LawSp sd n ∧ ∀ base : Heap, K.In base → base.Ns mainGlobals mg → FnG l.prog w K mg base k fa fd [x] sd) :
    PySem.W.WalkO q loose XP YP l.row.toRowW d [] (fun f vs => PySem.call f vs) := by
  refine Att.attach_callB hn hdf fun w s0 st mg mb fa o pm cd doc a vs ns T Y ho hd hcd hmg obj hints len bits ng => ?_
  obtain ⟨K, fd, sd, kin, bd, sp, G⟩ := F w mg fa _ Y T.T.g hmg
  have lv := hints.length
  have rv := vals_ints hints
  have big : ns.length ≤ sizeLine := Nat.le_trans len hn2
  cases hk : K.lookup a with
  | some ob =>
    have e := kin a ob hk
    rw [obj] at e
    cases e
    exact law_go kin T.T.g T.T.b T.T.builtins T.T.nolimit ng obj hr G bd (sp ns len bits) (H := fun _ => none) (fun _ => .inl rfl) (.inr ⟨_, vs.toArray, _, hk, rfl, rfl, rfl, by rw [List.size_toArray, lv]; exact big, by simpa using rv⟩) (fun b u z => nomatch z)
  | none =>
    have at_ : ∀ b, (if b = a then some (HO.frz { cls := .type "list", data := .seq vs.toArray } (.lst (ns.map V.int))) else none) = none ∨ (b = a ∧ K.lookup a = none ∧ (if a = a then some (HO.frz { cls := .type "list", data := .seq vs.toArray } (.lst (ns.map V.int))) else none) = some (HO.frz { cls := .type "list", data := .seq vs.toArray } (.lst (ns.map V.int)))) := fun b => by
      by_cases hb : b = a
      · exact .inr ⟨hb, hk, if_pos rfl⟩
      · exact .inl (if_neg hb)
    refine law_go kin T.T.g T.T.b T.T.builtins T.T.nolimit ng obj hr G bd (sp ns len bits) (H := fun b => if b = a then some (HO.frz { cls := .type "list", data := .seq vs.toArray } (.lst (ns.map V.int))) else none) at_ (.inl (.inr ⟨{ cls := .type "list", data := .seq vs.toArray }, if_pos rfl⟩)) fun b u z => ?_
    rcases at_ b with y | ⟨rfl, _, _⟩
    · exact absurd (y.symm.trans z) (fun q => nomatch q)
    · cases (if_pos rfl).symm.trans z
      exact ⟨obj, by rw [List.length_map]; exact big, vs, _, rv, obj⟩
end Dx
namespace Dx
open PySem L2
section
variable {X : Cx} {W : WX}
theorem call_len3 : CallR X (.builtin "len") (rLen3 X.K) := call_len.or call_lenD
theorem de_globI {x : Str} {i : Int} {pos : Pos} (hg : Gl X x) (hm : ∃ t, X.mg x = some (.int i t)) (hd : (x == ("__debug__" : Str)) = false := by decide) : DE X W (.Name x pos) (dC (.int i)) :=
  let ⟨t, h⟩ := hm; de_glob (v := .int i) hg h ⟨t, rfl⟩ (fun _ => .int i) hd
theorem de_globS {x : Str} {i : Str} {pos : Pos} (hg : Gl X x) (hm : ∃ t, X.mg x = some (.str i t)) (hd : (x == ("__debug__" : Str)) = false := by decide) : DE X W (.Name x pos) (dC (.str i)) :=
  let ⟨t, h⟩ := hm; de_glob (v := .str i) hg h ⟨t, rfl⟩ (fun _ => .str i) hd
theorem dt_chainv {e : Expr} {t : TD} (h : DE X W e t) (he : ∀ whole, isTrue e X.env whole = (do let v ← whole; standAt e.pos; holding [v] (truthy v)) := by intro _; rfl) : DT X W e (dTst t) := dt_val h he
end
end Dx
namespace Dx
open PySem L2
/-! ### reading proofs: laws of the combinators -/
theorem updO_upd {O : DH} {a : Addr} {m m' : MO} : updO (updO O a m) a m' = updO O a m' := by
  funext b; unfold updO; split <;> rfl
theorem updO_comm {O : DH} {a b : Addr} {m m' : MO} (h : a ≠ b) : updO (updO O a m) b m' = updO (updO O b m') a m := by
  funext c
  unfold updO
  by_cases h1 : c = b
  · by_cases h2 : c = a
    · exact absurd (h2.symm.trans h1) h
    · rw [if_pos h1, if_neg h2, if_pos h1]
  · rw [if_neg h1, if_neg h1]
theorem ne_free {O : DH} {a b : Addr} {m : MO} (h : O a = some m) (hb : O b = none) : a ≠ b := fun e => by rw [e, hb] at h; cases h
theorem drop_cons {α : Type} {l r : List α} {d : α} {k : Nat} (e : l.drop k = d :: r) : l[k]? = some d ∧ l.drop (k + 1) = r ∧ k < l.length := by
  have hd : l[k]? = some d := by
    have := congrArg (fun l => l[0]?) e
    simpa [List.getElem?_drop] using this
  have hr : l.drop (k + 1) = r := by
    have := congrArg (List.drop 1) e
    simpa [List.drop_drop] using this
  exact ⟨hd, hr, (List.getElem?_eq_some_iff.mp hd).1⟩
theorem drop_nil {α : Type} {l : List α} {k : Nat} (e : l.drop k = []) (hk : k ≤ l.length) : k = l.length := Nat.le_antisymm hk (by have := congrArg List.length e; rw [List.length_drop] at this; simp at this; omega)
/-- one turn of a comprehension; N: what the next turn is to meet -/
def lcTurn (a : Addr) (g : DG) (tt : TDT) (te : TD) (ρ : DEnv) (E : XD) (N : List D → DH → Prop) (d : D) (acc : List D) (O : DH) : Prop := g d ρ fun ρ1 => tt ρ1 O (fun k O1 => match k with
    | true => te ρ1 O1 (fun y O2 => O2 a = some (.lst acc) ∧ acc.length < sizeLine ∧ N (acc ++ [y]) (updO O2 a (.lst (acc ++ [y])))) E
    | false => O1 a = some (.lst acc) ∧ N acc O1) E
theorem lcGo_ind {a : Addr} {g : DG} {tt : TDT} {te : TD} {ρ : DEnv} {E : XD} {gd : DH → Prop} {Q : List D → DH → Prop} {items : List D} {O : DH} (J : Nat → List D → DH → Prop) (hg : ∀ k acc O, J k acc O → gd O) (h0 : J 0 [] O)
    (hs : ∀ k d acc O (N : List D → DH → Prop), items[k]? = some d → k < items.length → J k acc O → (∀ acc' O', J (k + 1) acc' O' → N acc' O') → lcTurn a g tt te ρ E N d acc O)
    (he : ∀ acc O, J items.length acc O → Q acc O) : lcGo a g tt te ρ E gd Q items [] O := by
  have go : ∀ (ds : List D) (k : Nat) acc O, items.drop k = ds → k ≤ items.length → J k acc O → lcGo a g tt te ρ E gd Q ds acc O := by
    intro ds
    induction ds with
    | nil =>
      intro k acc O e hk j
      have hk' := drop_nil e hk
      subst hk'
      exact ⟨hg _ _ _ j, he acc O j⟩
    | cons d r ih =>
      intro k acc O e hk j
      obtain ⟨hd, hr, hlt⟩ := drop_cons e
      refine ⟨hg _ _ _ j, ?_⟩
      exact hs k d acc O (fun acc' O' => lcGo a g tt te ρ E gd Q r acc' O') hd hlt j fun acc' O' j' => ih (k + 1) acc' O' hr hlt j'
  exact go items 0 [] O rfl (Nat.zero_le _) h0
theorem forGo_ind {g : DG} {b : TDS} {E : DEnds} {gd : DH → Prop} {items : List D} {ρ : DEnv} {O : DH} (J : Nat → DEnv → DH → Prop) (hg : ∀ k ρ O, J k ρ O → gd O) (h0 : J 0 ρ O)
    (hs : ∀ k d ρ O (N : DEnv → DH → Prop), items[k]? = some d → k < items.length → J k ρ O → (∀ ρ' O', J (k + 1) ρ' O' → N ρ' O') → g d ρ fun ρ1 => b { E with nx := N, ct := N, bk := E.nx } ρ1 O)
    (he : ∀ ρ O, J items.length ρ O → E.nx ρ O) : forGo g b E gd items ρ O := by
  have go : ∀ (ds : List D) (k : Nat) ρ O, items.drop k = ds → k ≤ items.length → J k ρ O → forGo g b E gd ds ρ O := by
    intro ds
    induction ds with
    | nil =>
      intro k ρ O e hk j
      have hk' := drop_nil e hk
      subst hk'
      exact ⟨hg _ _ _ j, he ρ O j⟩
    | cons d r ih =>
      intro k ρ O e hk j
      obtain ⟨hd, hr, hlt⟩ := drop_cons e
      refine ⟨hg _ _ _ j, ?_⟩
      exact hs k d ρ O (fun ρ' O' => forGo g b E gd r ρ' O') hd hlt j fun ρ' O' j' => ih (k + 1) ρ' O' hr hlt j'
  exact go items 0 ρ O rfl (Nat.zero_le _) h0
/-- a comprehension whose element is a function of the item and changes nothing -/
theorem lc_map {a : Addr} {i : Nat} {te : TD} {ρ : DEnv} {Q : List D → DH → Prop} {ds : List D} {O : DH} {gd : DH → Prop} (f : D → D) (hz : ds.length ≤ sizeLine) (ha : O a = none) (hg : ∀ O2, Sub O O2 → gd O2)
    (h : ∀ d ∈ ds, ∀ (O2 : DH) (R : QD), Sub O O2 → R (f d) O2 → te (ρ.set i (some d)) O2 R ENo) (q : Q (ds.map f) O) :
    lcGo a (gN i) dYes te ρ ENo gd (fun acc O2 => O2 a = some (.lst acc) ∧ ∃ O3, Sub O3 O2 ∧ O3 a = none ∧ Q acc O3) ds [] (updO O a (.lst [])) := by
  refine lcGo_ind (fun k acc O2 => acc = (ds.take k).map f ∧ O2 = updO O a (.lst acc)) (fun k acc O2 j => by rw [j.2]; exact hg _ (Sub.new ha)) ⟨rfl, rfl⟩ (fun k d acc O2 N hd hk j n => ?_) fun acc O2 j => ?_
  · obtain ⟨rfl, rfl⟩ := j
    refine h d (List.mem_of_getElem? hd) _ _ (Sub.new ha) ⟨updO_same, by rw [List.length_map, List.length_take]; omega, n _ _ ⟨?_, updO_upd⟩⟩
    rw [List.take_succ, hd, List.map_append]
    rfl
  · obtain ⟨rfl, rfl⟩ := j
    rw [List.take_length]
    exact ⟨updO_same, O, Sub.new ha, ha, q⟩
/-- .. with a test -/
theorem lc_filter {a : Addr} {i : Nat} {tt : TDT} {te : TD} {ρ : DEnv} {Q : List D → DH → Prop} {ds : List D} {O : DH} {gd : DH → Prop} (p : D → Bool) (f : D → D) (hz : ds.length ≤ sizeLine) (ha : O a = none) (hg : ∀ O2, Sub O O2 → gd O2)
    (ht : ∀ d ∈ ds, ∀ (O2 : DH) (R : Bool → DH → Prop), Sub O O2 → R (p d) O2 → tt (ρ.set i (some d)) O2 R ENo)
    (h : ∀ d ∈ ds, p d = true → ∀ (O2 : DH) (R : QD), Sub O O2 → R (f d) O2 → te (ρ.set i (some d)) O2 R ENo) (q : Q ((ds.filter p).map f) O) :
    lcGo a (gN i) tt te ρ ENo gd (fun acc O2 => O2 a = some (.lst acc) ∧ ∃ O3, Sub O3 O2 ∧ O3 a = none ∧ Q acc O3) ds [] (updO O a (.lst [])) := by
  refine lcGo_ind (fun k acc O2 => acc = ((ds.take k).filter p).map f ∧ O2 = updO O a (.lst acc)) (fun k acc O2 j => by rw [j.2]; exact hg _ (Sub.new ha)) ⟨rfl, rfl⟩ (fun k d acc O2 N hd hk j n => ?_) fun acc O2 j => ?_
  · obtain ⟨rfl, rfl⟩ := j
    have hm := List.mem_of_getElem? hd
    have hl : (((ds.take k).filter p).map f).length < sizeLine := by
      rw [List.length_map]
      have := List.length_filter_le p (ds.take k)
      rw [List.length_take] at this
      omega
    have ht2 : ds.take (k + 1) = ds.take k ++ [d] := by rw [List.take_succ, hd]; rfl
    refine ht d hm _ _ (Sub.new ha) ?_
    cases hp : p d with
    | true =>
      refine h d hm hp _ _ (Sub.new ha) ⟨updO_same, hl, n _ _ ⟨?_, updO_upd⟩⟩
      rw [ht2, List.filter_append, List.map_append, List.filter_cons, if_pos hp]
      rfl
    | false =>
      refine ⟨updO_same, n _ _ ⟨?_, rfl⟩⟩
      rw [ht2, List.filter_append, List.map_append, List.filter_cons, if_neg (by rw [hp]; decide)]
      simp
  · obtain ⟨rfl, rfl⟩ := j
    rw [List.take_length]
    exact ⟨updO_same, O, Sub.new ha, ha, q⟩
/-- a comprehension whose turns draw from what stands at v: I t: what stands there behind some draws -/
theorem lc_draw {a v : Addr} {i : Nat} {te : TD} {ρ : DEnv} {Q : List D → DH → Prop} {ds : List D} {O : DH} {gd : DH → Prop} {m0 : MO} (hg : ∀ m x, gd (updO (updO O v m) a (.lst x))) (I : Nat → MO → Prop) (P : Nat → D → Prop) (hz : ds.length ≤ sizeLine) (ha : O a = none) (hv : O v = some m0) (h0 : I 0 m0)
    (h : ∀ k d, ds[k]? = some d → ∀ (O2 : DH) (m : MO) (R : QD), O2 v = some m → I k m → (∀ y m', P k y → I (k + 1) m' → R y (updO O2 v m')) → te (ρ.set i (some d)) O2 R ENo)
    (q : ∀ ys m, ys.length = ds.length → (∀ k y, ys[k]? = some y → P k y) → I ds.length m → Q ys (updO O v m)) :
    lcGo a (gN i) dYes te ρ ENo gd (fun acc O2 => O2 a = some (.lst acc) ∧ ∃ O3, Sub O3 O2 ∧ O3 a = none ∧ Q acc O3) ds [] (updO O a (.lst [])) := by
  have nv : v ≠ a := ne_free hv ha
  have hself : updO O v m0 = O := by
    funext b
    unfold updO
    split
    · next e => rw [e, hv]
    · rfl
  refine lcGo_ind (fun k acc O2 => acc.length = k ∧ (∀ j y, acc[j]? = some y → P j y) ∧ ∃ m, I k m ∧ O2 = updO (updO O v m) a (.lst acc)) (fun k acc O2 j => by obtain ⟨_, _, m, _, e⟩ := j; rw [e]; exact hg m acc) ⟨rfl, fun j y e => by simp at e, m0, h0, by rw [hself]⟩ (fun k d acc O2 N hd hk j n => ?_) fun acc O2 j => ?_
  · obtain ⟨hl, hp, m, im, rfl⟩ := j
    refine h k d hd _ m _ (by rw [updO_ne nv]; exact updO_same) im fun y m' py im' => ⟨by rw [updO_ne nv.symm]; exact updO_same, by omega, n _ _ ⟨by simp [hl], fun j z e => ?_, m', im', ?_⟩⟩
    · by_cases hj : j < acc.length
      · rw [List.getElem?_append_left hj] at e
        exact hp j z e
      · rw [List.getElem?_append_right (by omega)] at e
        by_cases hjz : j - acc.length = 0
        · rw [hjz] at e
          have : y = z := by simpa using e
          subst this
          have : j = k := by omega
          subst this
          exact py
        · have : (j - acc.length) = (j - acc.length - 1) + 1 := by omega
          rw [this] at e
          simp at e
    · rw [updO_comm nv.symm, updO_upd, updO_upd]
  · obtain ⟨hl, hp, m, im, rfl⟩ := j
    exact ⟨updO_same, updO O v m, Sub.new (by rw [updO_ne nv.symm]; exact ha), by rw [updO_ne nv.symm]; exact ha, q acc m hl hp (by rw [← hl] at im; rw [hl] at im; exact im)⟩
/-! ### lists of ints, of truths -/
theorem pys_ints (ns : List Int) : D.pys (ns.map D.int) = some (ns.map PyData.int) := by
  induction ns with
  | nil => rfl
  | cons n r ih => rw [List.map_cons, List.map_cons]; unfold D.pys; rw [ih]; rfl
theorem pys_bls (ns : List Bool) : D.pys (ns.map D.bl) = some (ns.map PyData.bool) := by
  induction ns with
  | nil => rfl
  | cons n r ih => rw [List.map_cons, List.map_cons]; unfold D.pys; rw [ih]; rfl
theorem can_ints (ns : List Int) : PyData.canLayAll0 (ns.map PyData.int) = true := by
  induction ns with
  | nil => rfl
  | cons n r ih => rw [List.map_cons]; unfold PyData.canLayAll0; rw [ih]; rfl
theorem depth_ints (ns : List Int) : PyData.depthAll (ns.map PyData.int) ≤ 1 := by
  induction ns with
  | nil => simp [PyData.depthAll]
  | cons n r ih => rw [List.map_cons]; unfold PyData.depthAll; simp only [PyData.depth]; omega
theorem shaped_intsL (ns : List Int) : SeqAt.shaped (.list (ns.map PyData.int)) = true := by
  have h := depth_ints ns
  show (PyData.canLayAll0 (ns.map PyData.int) && decide (PyData.depthAll (ns.map PyData.int) + 1 ≤ 64)) = true
  rw [can_ints, Bool.true_and, decide_eq_true_eq]
  omega
theorem shaped_intsT (ns : List Int) : SeqAt.shaped (.tuple (ns.map PyData.int)) = true := by
  have h := depth_ints ns
  show (PyData.canLayAll0 (ns.map PyData.int) && decide (PyData.depthAll (ns.map PyData.int) + 1 ≤ 64)) = true
  rw [can_ints, Bool.true_and, decide_eq_true_eq]
  omega
theorem self_upd {O : DH} {v : Addr} {m : MO} (h : O v = some m) : updO O v m = O := by
  funext b
  unfold updO
  split
  · next e => rw [e, h]
  · rfl
theorem atI_0 {α : Type} (x : α) (r : List α) : atI (x :: r) 0 = some x := atI_nat (j := 0) rfl
theorem atI_1 {α : Type} (x y : α) (r : List α) : atI (x :: y :: r) 1 = some y := atI_nat (j := 1) rfl
theorem atI_2 {α : Type} (x y z : α) (r : List α) : atI (x :: y :: z :: r) 2 = some z := atI_nat (j := 2) rfl
theorem ixN_0 (n : Nat) : ixN (n + 1) 0 = some 0 := by unfold ixN; rw [if_pos (by decide), if_pos (by omega)]; rfl
theorem ixN_1 (n : Nat) : ixN (n + 2) 1 = some 1 := by unfold ixN; rw [if_pos (by decide), if_pos (by omega)]; rfl
theorem ixN_2 (n : Nat) : ixN (n + 3) 2 = some 2 := by unfold ixN; rw [if_pos (by decide), if_pos (by omega)]; rfl
theorem fEq_ii {O : DH} {i j : Int} {Q : D → Prop} : fEq O (.int i) (.int j) Q = Q (.bl (decide (i = j))) := by
  have e : PyData.eqv (.int i) (.int j) = decide (i = j) := by
    show (i == j) = decide (i = j)
    by_cases h : i = j <;> simp [h]
  show (SeqAt.shaped (.int i) = true ∧ SeqAt.shaped (.int j) = true ∧ Q (.bl (PyData.eqv (.int i) (.int j)))) = _
  rw [e]
  simp [show SeqAt.shaped (.int i) = true from rfl, show SeqAt.shaped (.int j) = true from rfl]
theorem fNe_ii {O : DH} {i j : Int} {Q : D → Prop} : fNe O (.int i) (.int j) Q = Q (.bl (!decide (i = j))) := by
  have e : PyData.eqv (.int i) (.int j) = decide (i = j) := by
    show (i == j) = decide (i = j)
    by_cases h : i = j <;> simp [h]
  show (SeqAt.shaped (.int i) = true ∧ SeqAt.shaped (.int j) = true ∧ Q (.bl (!PyData.eqv (.int i) (.int j)))) = _
  rw [e]
  simp [show SeqAt.shaped (.int i) = true from rfl, show SeqAt.shaped (.int j) = true from rfl]
theorem fEq_ss {O : DH} {i j : Str} {Q : D → Prop} : fEq O (.str i) (.str j) Q = Q (.bl (decide (i = j))) := rfl
theorem fNe_ss {O : DH} {i j : Str} {Q : D → Prop} : fNe O (.str i) (.str j) Q = Q (.bl (!decide (i = j))) := rfl
theorem fEq_bb {O : DH} {i j : Bool} {Q : D → Prop} : fEq O (.bl i) (.bl j) Q = Q (.bl (i == j)) := by
  show (SeqAt.shaped (.bool i) = true ∧ SeqAt.shaped (.bool j) = true ∧ Q (.bl (PyData.eqv (.bool i) (.bool j)))) = _
  simp [show SeqAt.shaped (.bool i) = true from rfl, show SeqAt.shaped (.bool j) = true from rfl, show PyData.eqv (.bool i) (.bool j) = (i == j) from rfl]
theorem fNe_bb {O : DH} {i j : Bool} {Q : D → Prop} : fNe O (.bl i) (.bl j) Q = Q (.bl (!(i == j))) := by
  show (SeqAt.shaped (.bool i) = true ∧ SeqAt.shaped (.bool j) = true ∧ Q (.bl (!PyData.eqv (.bool i) (.bool j)))) = _
  simp [show SeqAt.shaped (.bool i) = true from rfl, show SeqAt.shaped (.bool j) = true from rfl, show PyData.eqv (.bool i) (.bool j) = (i == j) from rfl]
/-! ### repr of truths -/
theorem showable_bls (bs : List Bool) : PyData.showableAll (bs.map PyData.bool) = true := by
  induction bs with
  | nil => rfl
  | cons b r ih => rw [List.map_cons]; unfold PyData.showableAll; rw [ih]; rfl
theorem nodict_bls (bs : List Bool) : PyData.hasDictAll (bs.map PyData.bool) = false := by
  induction bs with
  | nil => rfl
  | cons b r ih => rw [List.map_cons]; unfold PyData.hasDictAll; rw [ih]; rfl
theorem depth_bls (ns : List Bool) : PyData.depthAll (ns.map PyData.bool) ≤ 1 := by
  induction ns with
  | nil => simp [PyData.depthAll]
  | cons n r ih => rw [List.map_cons]; unfold PyData.depthAll; simp only [PyData.depth]; omega
end Dx
namespace Dx
open PySem L2
local macro_rules | `(tactic| walk_at "dx") => `(tactic| simp only [dVar, dC, dBin, dUn, dTst, dTru, dAnd, dOr, dNot, dAndV, dOrV, dNotV, dIf, dChain, dNil, dCons, dTup, dLst, dLstM, dDic0, dDic1, dNoP, dPart, dSl, dCB, dIsi, dIsiT, dNext, dSeq, dRet, dRetF, dRetN, dDrop, dIfS, dBreak, dCont, dAsg, gN, gTu, gCn, gNl, dPar, dSetIx, dApp, dISeq, dIRng1, dIRng2, dFor, dCall, dLc, dLcM, dYes, dwipe, ends,
  List.getElem?_cons_zero, List.getElem?_cons_succ, List.getElem?_nil, List.set_cons_zero, List.set_cons_succ, List.length_cons, List.length_nil, Nat.zero_add, Nat.reduceAdd])
local macro_rules | `(tactic| walk_at "df") => `(tactic| simp only [fAdd, fSub, fMul, fMod, fFd, fPow, fNeg, fLt, fLe, fGt, fGe, fI, fI0, fU, fIsN, fNotN, fIx, fSl, fLen, fInt, fAbs, fMax2, fMin2, fStr, fTuple, fList, fAll, fAny, fSum, fEq_ii, fNe_ii, fEq_ss, fNe_ss, fEq_bb, fNe_bb, items, itemsL, trkD, ixD, atI_0, atI_1, atI_2, ixN_0, ixN_1, ixN_2, Option.bind_some, Option.map_some, lenD, keyD, noneD, kindD, truth, shown?, D.py, D.pys, true_and, and_true])
theorem kindD_non {O : DH} : kindD O .non = some "NoneType" := rfl
theorem kindD_bl {O : DH} {b : Bool} : kindD O (.bl b) = some "bool" := rfl
theorem kindD_int {O : DH} {i : Int} : kindD O (.int i) = some "int" := rfl
theorem kindD_str {O : DH} {z : Str} : kindD O (.str z) = some "str" := rfl
theorem kindD_lst {O : DH} {ds : List D} : kindD O (.lst ds) = some "list" := rfl
theorem kindD_tup {O : DH} {ds : List D} : kindD O (.tup ds) = some "tuple" := rfl
theorem kindD_dic {O : DH} {ks : List (Key × D)} : kindD O (.dic ks) = some "dict" := rfl
theorem items_lst {O : DH} {ds : List D} : items O (.lst ds) = some ds := rfl
theorem items_tup {O : DH} {ds : List D} : items O (.tup ds) = some ds := rfl
theorem items_wl {O : DH} {ds : List D} : items O (.wl ds) = some ds := rfl
theorem itemsL_lst {O : DH} {ds : List D} : itemsL O (.lst ds) = some ds := rfl
theorem itemsL_wl {O : DH} {ds : List D} : itemsL O (.wl ds) = some ds := rfl
theorem trkD_lst {O : DH} {ds : List D} : trkD O (.lst ds) = some ds := rfl
theorem items_ref {O : DH} {ds : List D} {a : Addr} (h : O a = some (.lst ds)) : items O (.ref a) = some ds := by unfold items; simp only [h]
theorem itemsL_ref {O : DH} {ds : List D} {a : Addr} (h : O a = some (.lst ds)) : itemsL O (.ref a) = some ds := by unfold itemsL; simp only [h]
theorem trkD_ref {O : DH} {ds : List D} {a : Addr} (h : O a = some (.lst ds)) : trkD O (.ref a) = some ds := by unfold trkD; simp only [h]
theorem kindD_ref {O : DH} {ds : List D} {a : Addr} (h : O a = some (.lst ds)) : kindD O (.ref a) = some "list" := by unfold kindD; simp only [h]
theorem lenD_lst {O : DH} {ds : List D} : lenD O (.lst ds) = some ds.length := rfl
theorem lenD_tup {O : DH} {ds : List D} : lenD O (.tup ds) = some ds.length := rfl
theorem lenD_wl {O : DH} {ds : List D} : lenD O (.wl ds) = some ds.length := rfl
theorem lenD_dic {O : DH} {ks : List (Key × D)} : lenD O (.dic ks) = some ks.length := rfl
theorem lenD_ref {O : DH} {ds : List D} {a : Addr} (h : O a = some (.lst ds)) : lenD O (.ref a) = some ds.length := by show (items O (.ref a)).map List.length = _; rw [items_ref h]; rfl
theorem lenD_str {O : DH} {z : Str} : lenD O (.str z) = if z.length ≤ sizeLine then some z.length else none := rfl
theorem truth_non {O : DH} : truth O .non = some false := rfl
theorem truth_bl {O : DH} {b : Bool} : truth O (.bl b) = some b := rfl
theorem truth_int {O : DH} {i : Int} : truth O (.int i) = some (i != 0) := rfl
theorem truth_str {O : DH} {z : Str} : truth O (.str z) = if z.length ≤ sizeLine then some ((z.length : Int) != 0) else none := rfl
theorem truth_dic {O : DH} {ks : List (Key × D)} : truth O (.dic ks) = some (!ks.isEmpty) := rfl
theorem truth_lst {O : DH} {ds : List D} : truth O (.lst ds) = some (!ds.isEmpty) := rfl
theorem truth_tup {O : DH} {ds : List D} : truth O (.tup ds) = some (!ds.isEmpty) := rfl
theorem truth_wl {O : DH} {ds : List D} : truth O (.wl ds) = some (!ds.isEmpty) := rfl
theorem truth_ref {O : DH} {ds : List D} {a : Addr} (h : O a = some (.lst ds)) : truth O (.ref a) = some (!ds.isEmpty) := by show (items O (.ref a)).map (fun ds => !ds.isEmpty) = _; rw [items_ref h]; rfl
theorem keyD_int : ∀ {i : Int}, keyD (.int i) = some (.inl i) := rfl
theorem keyD_str : ∀ {z : Str}, keyD (.str z) = some (.inr z) := rfl
theorem noneD_non  : noneD .non = true := rfl
theorem noneD_bl {b : Bool} : noneD (.bl b) = false := rfl
theorem noneD_int {i : Int} : noneD (.int i) = false := rfl
theorem noneD_str {z : Str} : noneD (.str z) = false := rfl
theorem noneD_lst {ds : List D} : noneD (.lst ds) = false := rfl
theorem noneD_tup {ds : List D} : noneD (.tup ds) = false := rfl
theorem noneD_dic {ks : List (Key × D)} : noneD (.dic ks) = false := rfl
theorem noneD_ref {a : Addr} : noneD (.ref a) = false := rfl
/-! ### what draws -/
def VesM (t : Int) (m : MO) : Prop := ∃ (cells : List Int) (turn rest : Int), m = .lst [.lst (cells.map .int), .int turn, .int rest] ∧ cells.length ≤ 100000 ∧ 0 ≤ turn ∧ turn ≤ t ∧ 0 ≤ rest
theorem VesM.mono {t t' : Int} {m : MO} (h : VesM t m) (e : t ≤ t') : VesM t' m := let ⟨c, u, r, h1, h2, h3, h4, h5⟩ := h; ⟨c, u, r, h1, h2, h3, Int.le_trans h4 e, h5⟩
def sd_draw : SpD := fun ds O Q E => match ds with
  | [.ref v, .int many] => ∃ t m, O v = some m ∧ VesM t m ∧ t < 1000000 ∧ 0 < many ∧ many < 1073741824 ∧ ∀ r m', 0 ≤ r → r < many → VesM (t + 1) m' → Q (.int r) (updO O v m')
  | _ => False
/-- the body of the laws' drawing def -/
def tDraw (M1 A1 B1 M2 B2 A2 B3 M3 : Int) : TDS :=
    (dSeq (dIfS (dTst (dBin fEq (dBin fIx (dVar 0) (dC (.int 0))) (dLst dNil)))
    (dRet (dC (.int 0)))
    dNext)
    (dSeq (dIfS (dTst (dBin fGt (dBin fIx (dVar 0) (dC (.int 2))) (dC (.int 0))))
    (dSeq (dAsg (dCB fInt (dCons (dBin fIx (dVar 0) (dC (.int 2))) dNil)) (gN 2))
    (dSeq (dSetIx (dBin fFd (dVar 2) (dVar 1)) (dVar 0) (dC (.int 2)))
    (dRet (dBin fMod (dCB fInt (dCons (dVar 2) dNil)) (dVar 1)))))
    dNext)
    (dSeq (dAsg (dBin fIx (dVar 0) (dC (.int 1))) (gN 3))
    (dSeq (dSetIx (dBin fAdd (dVar 3) (dC (.int 1))) (dVar 0) (dC (.int 1)))
    (dSeq (dAsg (dBin fIx (dBin fIx (dVar 0) (dC (.int 0))) (dBin fMod (dCB fInt (dCons (dVar 3) dNil)) (dCB fLen (dCons (dBin fIx (dVar 0) (dC (.int 0))) dNil)))) (gN 4))
    (dSeq (dIfS (dAnd (dTst (dBin fLt (dVar 3) (dCB fLen (dCons (dBin fIx (dVar 0) (dC (.int 0))) dNil)))) (dTst (dBin fGe (dCB fAbs (dCons (dVar 4) dNil)) (dBin fPow (dC (.int 10)) (dC (.int 18))))))
    (dSeq (dAsg (dBin fAdd (dBin fMul (dC (.int 2)) (dBin fSub (dCB fAbs (dCons (dVar 4) dNil)) (dBin fPow (dC (.int 10)) (dC (.int 18))))) (dCB fInt (dCons (dBin fLt (dVar 4) (dC (.int 0))) dNil))) (gN 2))
    (dSeq (dSetIx (dBin fFd (dVar 2) (dVar 1)) (dVar 0) (dC (.int 2)))
    (dRet (dBin fMod (dCB fInt (dCons (dVar 2) dNil)) (dVar 1)))))
    dNext)
    (dSeq (dAsg (dBin fMod (dCB fInt (dCons (dBin fPow (dBin fAdd (dBin fAdd (dBin fMod (dCB fInt (dCons (dVar 4) dNil)) (dC (.int M1))) (dBin fMul (dC (.int A1)) (dVar 3))) (dC (.int B1))) (dC (.int 5))) dNil)) (dC (.int M2))) (gN 5))
    (dSeq (dAsg (dBin fMod (dCB fInt (dCons (dBin fPow (dBin fAdd (dBin fAdd (dBin fMul (dVar 5) (dBin fAdd (dBin fMul (dC (.int 2)) (dVar 3)) (dC (.int B2)))) (dBin fMul (dBin fMul (dC (.int A2)) (dVar 3)) (dVar 3))) (dC (.int B3))) (dC (.int 3))) dNil)) (dC (.int M3))) (gN 5))
    (dRet (dBin fMod (dCB fInt (dCons (dBin fFd (dVar 5) (dC (.int 64))) dNil)) (dVar 1)))))))))))
theorem fm_lt {i j : Int} (h : 0 < j) : 0 ≤ i.fmod j ∧ i.fmod j < j := ⟨Int.fmod_nonneg_of_pos _ h, Int.fmod_lt_of_pos _ h⟩
theorem fd_nn {i j : Int} (hi : 0 ≤ i) (h : 0 < j) : 0 ≤ i.fdiv j := by
  rw [Int.fdiv_eq_ediv_of_nonneg _ (Int.le_of_lt h)]
  exact Int.ediv_nonneg hi (Int.le_of_lt h)
theorem cm_small {i j : Int} (h1 : -(2 ^ 64) < i) (h2 : i < 2 ^ 64) : CM i j := .inl (.inl ⟨h1, h2⟩)
theorem sq_bound {a t : Int} (h0 : 0 ≤ a) (h1 : a ≤ 1000000) (h2 : 0 ≤ t) (h3 : t ≤ 1000000) : 0 ≤ a * t ∧ a * t ≤ 1000000000000 := by
  refine ⟨Int.mul_nonneg h0 h2, ?_⟩
  have h := Int.mul_le_mul h1 h3 h2 (by decide)
  exact Int.le_trans h (by decide)
theorem rd_draw (M1 A1 B1 M2 B2 A2 B3 M3 : Int) (hM1 : 0 < M1 ∧ M1 < 4294967296) (hA1 : 0 ≤ A1 ∧ A1 < 1000000) (hB1 : 0 ≤ B1 ∧ B1 < 1000000) (hM2 : 0 < M2 ∧ M2 < 4294967296) (hB2 : 0 ≤ B2 ∧ B2 < 1000000) (hA2 : 0 ≤ A2 ∧ A2 < 1000000) (hB3 : 0 ≤ B3 ∧ B3 < 1000000) (hM3 : 0 < M3 ∧ M3 < 4294967296) :
    ∀ ds O Q E, sd_draw ds O Q E → tDraw M1 A1 B1 M2 B2 A2 B3 M3 (ends Q E) (dstart 6 ds) O := by
  intro ds O Q E h
  unfold sd_draw at h
  split at h
  · rename_i v many
    obtain ⟨t, m, hv, ⟨cells, turn, rest, rfl, hc, ht0, ht1, hr⟩, ht, hm0, hm1, q⟩ := h
    show tDraw M1 A1 B1 M2 B2 A2 B3 M3 (ends Q E) [some (.ref v), some (.int many), none, none, none, none] O
    unfold tDraw
    walk_at "dx"
    simp only [fIx, ixD, items, hv, Option.bind_some, atI_0, atI_1, atI_2, fEq, shown?, D.py, D.pys, pys_ints, Option.map_some]
    refine ⟨by show 0 ≤ sizeLine; exact Nat.zero_le _, shaped_intsL cells, rfl, ?_⟩
    cases cells with
    | nil =>
      refine ⟨O, Sub.refl O, ?_⟩
      have := q 0 _ (Int.le_refl 0) hm0 (VesM.mono ⟨[], turn, rest, rfl, hc, ht0, Int.le_refl _, hr⟩ (by omega))
      rw [self_upd hv] at this
      exact this
    | cons c0 cs =>
      have e0 : PyData.eqv (.list ((c0 :: cs).map PyData.int)) (.list []) = false := rfl
      simp only [e0]
      generalize hcells : c0 :: cs = cells at *
      have hne : 0 < cells.length := by rw [← hcells]; exact Nat.succ_pos _
      clear hcells e0
      walk_at "df"
      have nz : many ≠ 0 := by omega
      have fdm : ∀ i : Int, CFd i many := fun i => .inl ⟨nz, by omega⟩
      cases hr0 : decide (0 < rest) with
      | true =>
        simp only [updO_same, List.length_cons, List.length_nil, ixN_0, ixN_1, ixN_2, Nat.reduceAdd, Nat.zero_add]
        refine ⟨fdm _, nz, _, Sub.refl _, q _ _ (fm_lt hm0).1 (fm_lt hm0).2 ⟨cells, turn, rest.fdiv many, rfl, hc, ht0, by omega, fd_nn hr hm0⟩⟩
      | false =>
        simp only [updO_same, updO_upd, List.length_cons, List.length_nil, ixN_0, ixN_1, ixN_2, List.set_cons_zero, List.set_cons_succ, atI_0, atI_1, atI_2, Option.bind_some, List.length_map, Nat.reduceAdd, Nat.zero_add]
        have el : Option.map List.length (some (List.map D.int cells)) = some cells.length := by simp
        have hln : (0 : Int) < (cells.length : Int) := by omega
        obtain ⟨b1, b2⟩ := fm_lt (i := turn) hln
        obtain ⟨k, hk⟩ := Int.eq_ofNat_of_zero_le b1
        have hk2 : k < cells.length := by omega
        have ec : atI (cells.map D.int) (turn.fmod (cells.length : Int)) = some (.int cells[k]) := by
          rw [hk]
          refine atI_nat ?_
          rw [List.getElem?_map, List.getElem?_eq_getElem hk2]
          rfl
        generalize cells[k] = cell at ec
        simp only [el, ec]
        have p10 : CPow 10 18 := ⟨by decide, by decide, by decide⟩
        have e10 : (10 : Int) ^ Int.toNat 18 = 1000000000000000000 := by decide
        have tail : M1 ≠ 0 ∧ CM A1 turn ∧ CPow (cell.fmod M1 + A1 * turn + B1) 5 ∧ M2 ≠ 0 ∧ CM 2 turn ∧ CM (((cell.fmod M1 + A1 * turn + B1) ^ Int.toNat 5).fmod M2) (2 * turn + B2) ∧ CM A2 turn ∧ CM (A2 * turn) turn ∧
            CPow (((cell.fmod M1 + A1 * turn + B1) ^ Int.toNat 5).fmod M2 * (2 * turn + B2) + A2 * turn * turn + B3) 3 ∧ M3 ≠ 0 ∧ CFd (((((cell.fmod M1 + A1 * turn + B1) ^ Int.toNat 5).fmod M2 * (2 * turn + B2) + A2 * turn * turn + B3) ^ Int.toNat 3).fmod M3) 64 ∧ many ≠ 0 ∧
            ∃ O2, Sub O2 (updO O v (MO.lst [D.lst (List.map D.int cells), D.int (turn + 1), D.int rest])) ∧
              Q (D.int (((((((cell.fmod M1 + A1 * turn + B1) ^ Int.toNat 5).fmod M2 * (2 * turn + B2) + A2 * turn * turn + B3) ^ Int.toNat 3).fmod M3).fdiv 64).fmod many)) O2 := by
          have htn : turn ≤ 1000000 := by omega
          have x1 := fm_lt (i := cell) hM1.1
          have x2 := sq_bound hA1.1 (by omega) ht0 htn
          have x3 := sq_bound hA2.1 (by omega) ht0 htn
          have x4 : 0 ≤ A2 * turn * turn ∧ A2 * turn * turn ≤ 1000000000000000000 := by
            refine ⟨Int.mul_nonneg x3.1 ht0, ?_⟩
            exact Int.le_trans (Int.mul_le_mul x3.2 htn ht0 (by decide)) (by decide)
          have y1 := fm_lt (i := (cell.fmod M1 + A1 * turn + B1) ^ Int.toNat 5) hM2.1
          generalize ((cell.fmod M1 + A1 * turn + B1) ^ Int.toNat 5).fmod M2 = mixed at y1 ⊢
          have y2 : 0 ≤ mixed * (2 * turn + B2) ∧ mixed * (2 * turn + B2) ≤ 4294967296 * 3000000 := by
            refine ⟨Int.mul_nonneg y1.1 (by omega), ?_⟩
            exact Int.mul_le_mul (by omega) (by omega) (by omega) (by decide)
          have y3 := fm_lt (i := (mixed * (2 * turn + B2) + A2 * turn * turn + B3) ^ Int.toNat 3) hM3.1
          refine ⟨by omega, cm_small (by omega) (by omega), ⟨by decide, by decide, by omega⟩, by omega, cm_small (by decide) (by decide), cm_small (by omega) (by omega), cm_small (by omega) (by omega), cm_small (by omega) (by omega), ⟨by decide, by decide, by omega⟩, by omega, .inl ⟨by decide, by decide⟩, nz, _, Sub.refl _, ?_⟩
          exact q _ _ (fm_lt hm0).1 (fm_lt hm0).2 ⟨cells, turn + 1, rest, rfl, hc, by omega, by omega, hr⟩
        refine ⟨by omega, ?_⟩
        cases hd1 : decide (turn < (cells.length : Int)) with
        | false => exact tail
        | true =>
          refine ⟨p10, ?_⟩
          simp only [e10]
          cases hd2 : decide ((1000000000000000000 : Int) ≤ if cell < 0 then -cell else cell) with
          | false => exact tail
          | true =>
            have h18 : (1000000000000000000 : Int) ≤ if cell < 0 then -cell else cell := of_decide_eq_true hd2
            refine ⟨p10, cm_small (by decide) (by decide), fdm _, nz, _, Sub.refl _, q _ _ (fm_lt hm0).1 (fm_lt hm0).2 ⟨cells, turn + 1, _, rfl, hc, by omega, by omega, fd_nn ?_ hm0⟩⟩
            have h19 : 0 ≤ (2 : Int) * ((if cell < 0 then -cell else cell) - 1000000000000000000) := by omega
            split <;> omega
  · exact h.elim
theorem all_in {α : Type} (p : α → Bool) {l : List α} (h : l.all p = true) {x : α} (hx : x ∈ l) : p x = true := List.all_eq_true.mp h x hx
theorem intsFrom_len {lo : Int} {n : Nat} : (intsFrom lo n).length = n := by unfold intsFrom; rw [List.length_map, List.length_range]
theorem intsFrom_get {lo : Int} {n k : Nat} {d : D} (h : (intsFrom lo n)[k]? = some d) : k < n ∧ d = .int (lo + k) := by
  unfold intsFrom at h
  rw [List.getElem?_map] at h
  by_cases hk : k < n
  · rw [List.getElem?_range hk] at h
    cases h
    exact ⟨hk, rfl⟩
  · rw [List.getElem?_eq_none (by rw [List.length_range]; omega)] at h
    cases h
theorem cut_take {ds : List D} {n : Nat} : cutD ds none (some (n : Int)) = ds.take n := by
  show (ds.drop 0).take (HT.sIx ds.length ds.length (some (n : Int)) - 0) = _
  rw [HT.sIx_nat, List.drop_zero, Nat.sub_zero]
  by_cases h : n ≤ ds.length
  · rw [Nat.min_eq_left h]
  · rw [Nat.min_eq_right (by omega), List.take_length, List.take_of_length_le (by omega)]
theorem repD_one {d : D} (n : Nat) : repD n [d] = List.replicate n d := by
  unfold repD
  induction n with
  | zero => rfl
  | succ n ih => rw [List.replicate_succ, List.flatten_cons, ih, List.replicate_succ]; rfl
theorem fRepr_bl {O : DH} {b : Bool} {Q : D → Prop} (q : Q (.str (PyData.bool b).shown)) : fRepr O [.bl b] Q := by
  cases b
  · exact ⟨rfl, rfl, by decide, by decide, q⟩
  · exact ⟨rfl, rfl, by decide, by decide, q⟩
theorem fEq_same {O : DH} {i : Str} {Q : D → Prop} : fEq O (.str i) (.str i) Q = Q (.bl true) := by rw [fEq_ss, decide_eq_true rfl]
theorem fNe_same {O : DH} {i : Str} {Q : D → Prop} : fNe O (.str i) (.str i) Q = Q (.bl false) := by rw [fNe_ss, decide_eq_true rfl]; rfl
theorem sz0 : (0 ≤ sizeLine) = True := eq_true (Nat.le_trans (by decide : 0 ≤ 100000) (by decide))
theorem sz1 : (1 ≤ sizeLine) = True := eq_true (Nat.le_trans (by decide : 1 ≤ 100000) (by decide))
theorem sz2 : (2 ≤ sizeLine) = True := eq_true (Nat.le_trans (by decide : 2 ≤ 100000) (by decide))
theorem sz3 : (3 ≤ sizeLine) = True := eq_true (Nat.le_trans (by decide : 3 ≤ 100000) (by decide))
theorem sz4 : (4 ≤ sizeLine) = True := eq_true (Nat.le_trans (by decide : 4 ≤ 100000) (by decide))
theorem sz5 : (5 ≤ sizeLine) = True := eq_true (Nat.le_trans (by decide : 5 ≤ 100000) (by decide))
theorem sz6 : (6 ≤ sizeLine) = True := eq_true (Nat.le_trans (by decide : 6 ≤ 100000) (by decide))
theorem sz7 : (7 ≤ sizeLine) = True := eq_true (Nat.le_trans (by decide : 7 ≤ 100000) (by decide))
theorem sz8 : (8 ≤ sizeLine) = True := eq_true (Nat.le_trans (by decide : 8 ≤ 100000) (by decide))
theorem sz9 : (9 ≤ sizeLine) = True := eq_true (Nat.le_trans (by decide : 9 ≤ 100000) (by decide))
theorem sz10 : (10 ≤ sizeLine) = True := eq_true (Nat.le_trans (by decide : 10 ≤ 100000) (by decide))
theorem sz11 : (11 ≤ sizeLine) = True := eq_true (Nat.le_trans (by decide : 11 ≤ 100000) (by decide))
theorem sz12 : (12 ≤ sizeLine) = True := eq_true (Nat.le_trans (by decide : 12 ≤ 100000) (by decide))
theorem sz13 : (13 ≤ sizeLine) = True := eq_true (Nat.le_trans (by decide : 13 ≤ 100000) (by decide))
theorem sz14 : (14 ≤ sizeLine) = True := eq_true (Nat.le_trans (by decide : 14 ≤ 100000) (by decide))
theorem sz15 : (15 ≤ sizeLine) = True := eq_true (Nat.le_trans (by decide : 15 ≤ 100000) (by decide))
theorem sz16 : (16 ≤ sizeLine) = True := eq_true (Nat.le_trans (by decide : 16 ≤ 100000) (by decide))
theorem sz17 : (17 ≤ sizeLine) = True := eq_true (Nat.le_trans (by decide : 17 ≤ 100000) (by decide))
theorem sz18 : (18 ≤ sizeLine) = True := eq_true (Nat.le_trans (by decide : 18 ≤ 100000) (by decide))
theorem sz19 : (19 ≤ sizeLine) = True := eq_true (Nat.le_trans (by decide : 19 ≤ 100000) (by decide))
theorem sz20 : (20 ≤ sizeLine) = True := eq_true (Nat.le_trans (by decide : 20 ≤ 100000) (by decide))
theorem sz21 : (21 ≤ sizeLine) = True := eq_true (Nat.le_trans (by decide : 21 ≤ 100000) (by decide))
theorem sz22 : (22 ≤ sizeLine) = True := eq_true (Nat.le_trans (by decide : 22 ≤ 100000) (by decide))
theorem sz23 : (23 ≤ sizeLine) = True := eq_true (Nat.le_trans (by decide : 23 ≤ 100000) (by decide))
theorem sz24 : (24 ≤ sizeLine) = True := eq_true (Nat.le_trans (by decide : 24 ≤ 100000) (by decide))
theorem sz25 : (25 ≤ sizeLine) = True := eq_true (Nat.le_trans (by decide : 25 ≤ 100000) (by decide))
theorem sz26 : (26 ≤ sizeLine) = True := eq_true (Nat.le_trans (by decide : 26 ≤ 100000) (by decide))
theorem sz27 : (27 ≤ sizeLine) = True := eq_true (Nat.le_trans (by decide : 27 ≤ 100000) (by decide))
theorem sz28 : (28 ≤ sizeLine) = True := eq_true (Nat.le_trans (by decide : 28 ≤ 100000) (by decide))
theorem sz29 : (29 ≤ sizeLine) = True := eq_true (Nat.le_trans (by decide : 29 ≤ 100000) (by decide))
theorem sz30 : (30 ≤ sizeLine) = True := eq_true (Nat.le_trans (by decide : 30 ≤ 100000) (by decide))
/-- what each law's def is asked -/
def sd_law : SpD := fun ds O Q E => match ds with
  | [.wl ds] => ∃ ns : List Int, ds = ns.map .int ∧ ns.length ≤ 63 ∧ (∀ i ∈ ns, PySem.Builtin.Int.intBits i ≤ 1048576) ∧ O = noO ∧ ∀ O', Q (.bl true) O'
  | _ => False
theorem law_sp : LawSp sd_law 63 := fun ns hl hb => ⟨ns, rfl, hl, hb, rfl, fun _ => rfl⟩
/-- the laws' vessel, of the script's first n cells -/
def tVessel (n : Int) : TDS := (dRet (dLstM (dCons (dLc (dISeq (dSl (dVar 0) dNoP (dPart (dC (.int n))))) (gN 1) dYes (dCB fInt (dCons (dVar 1) dNil)) [1]) (dCons (dC (.int 0)) (dCons (dC (.int 0)) dNil)))))
def sd_vessel : SpD := fun ds O Q E => match ds with
  | [.wl ds] => ∃ ns : List Int, ds = ns.map .int ∧ ns.length ≤ 100000 ∧ ∀ a m, O a = none → VesM 0 m → Q (.ref a) (updO O a m)
  | _ => False
theorem cut_ints (ns : List Int) (lo hi : Option Int) : ∃ ms : List Int, cutD (ns.map D.int) lo hi = ms.map D.int ∧ ms.length ≤ ns.length := by
  refine ⟨(ns.drop (HT.sIx ns.length 0 lo)).take (HT.sIx ns.length ns.length hi - HT.sIx ns.length 0 lo), ?_, ?_⟩
  · unfold cutD
    rw [List.length_map, ← List.map_drop, ← List.map_take]
  · rw [List.length_take, List.length_drop]
    omega
theorem small_line {n : Nat} (h : n ≤ 100000) : n ≤ sizeLine := Nat.le_trans h (by decide)
theorem rd_vessel (n : Int) : ∀ ds O Q E, sd_vessel ds O Q E → tVessel n (ends Q E) (dstart 2 ds) O := by
  intro ds O Q E h
  unfold sd_vessel at h
  split at h
  · obtain ⟨ns, rfl, hl, q⟩ := h
    show tVessel n (ends Q E) [some (.wl (ns.map .int)), none] O
    unfold tVessel
    walk_at "dx"
    walk_at "df"
    obtain ⟨ms, em, hm⟩ := cut_ints ns none (some n)
    simp only [em]
    intro a ha
    refine lc_map (fun e => e) (by rw [List.length_map]; exact small_line (by omega)) ha (fun _ _ => trivial) (fun e hem O2 R s r => ?_) ?_
    · obtain ⟨i, _, rfl⟩ := List.mem_map.mp hem
      exact r
    · refine ⟨small_line (by decide), fun v hv => ⟨_, Sub.refl _, q v _ hv ⟨ms, 0, 0, by rw [List.map_id'], by omega, by decide, by decide, by decide⟩⟩⟩
  · exact h.elim
theorem fIx_at {O : DH} {x d : D} {es : List D} {i : Int} {Q : D → Prop} (h : items O x = some es) (h2 : atI es i = some d) (q : Q d) : fIx O x (.int i) Q := by
  have e : ixD O x (.int i) = some d := by
    unfold ixD
    cases x <;> first | (show (items O _).bind _ = _; rw [h]; exact h2) | (cases h)
  unfold fIx
  rw [e]
  exact q
/-- the laws' def that picks one of some things -/
def tPick (sp : SpD) (g : List D → List D → List D) : TDS := (dRet (dBin fIx (dVar 1) (dCall sp 2 0 g (dCons (dVar 0) (dCons (dCB fLen (dCons (dVar 1) dNil)) dNil)) dNil)))
def sd_pick : SpD := fun ds O Q E => match ds with
  | [.ref v, .lst ds] => ∃ t m, O v = some m ∧ VesM t m ∧ t < 1000000 ∧ 0 < ds.length ∧ ds.length < 1000000 ∧ ∀ x m', x ∈ ds → VesM (t + 1) m' → Q x (updO O v m')
  | _ => False
theorem rd_pick (g : List D → List D → List D) (hg : ∀ x y, g [x, y] [] = [x, y]) : ∀ ds O Q E, sd_pick ds O Q E → tPick sd_draw g (ends Q E) (dstart 2 ds) O := by
  intro ds O Q E h
  unfold sd_pick at h
  split at h
  · rename_i v es
    obtain ⟨t, m, hv, hm, ht, h0, h1, q⟩ := h
    show tPick sd_draw g (ends Q E) [some (.ref v), some (.lst es)] O
    unfold tPick
    walk_at "dx"
    simp only [fLen, lenD, items, Option.map_some]
    rw [hg]
    simp only [true_and]
    refine ⟨t, m, hv, hm, ht, by omega, by omega, fun r m' r0 r1 hm' => ?_⟩
    obtain ⟨k, rfl⟩ := Int.eq_ofNat_of_zero_le r0
    have hk : k < es.length := by omega
    exact fIx_at (es := es) rfl (atI_nat (List.getElem?_eq_getElem hk)) ⟨_, Sub.refl _, q _ _ (List.getElem_mem hk) hm'⟩
  · exact h.elim
theorem fRepr_bls {O : DH} {bs : List Bool} {Q : D → Prop} (hl : bs.length ≤ 1000) (q : Q (.str (PyData.list (bs.map PyData.bool)).shown)) : fRepr O [.lst (bs.map D.bl)] Q := by
  have e : shown? O (.lst (bs.map D.bl)) = some (.list (bs.map PyData.bool)) := by
    show (D.pys (bs.map D.bl)).map PyData.list = _
    rw [pys_bls]
    rfl
  show (match shown? O (.lst (bs.map D.bl)) with
    | some p => p.showable = true ∧ p.hasDict = false ∧ p.depth ≤ 100 ∧ p.shown.length ≤ sizeLine ∧ Q (.str p.shown)
    | none => False)
  rw [e]
  refine ⟨showable_bls bs, nodict_bls bs, ?_, ?_, q⟩
  · have := depth_bls bs
    show PyData.depthAll _ + 1 ≤ 100
    omega
  · refine PyData.shown_fits_bulk (B := 8) (by decide) (by decide) ?_ ?_
    · show PyData.leavesShortAll 8 _ = true
      clear e q hl
      induction bs with
      | nil => rfl
      | cons b r ih => rw [List.map_cons]; unfold PyData.leavesShortAll; rw [ih]; rfl
    · have hb : ∀ bs : List Bool, PyData.bulkAll (bs.map PyData.bool) ≤ 4 * bs.length := by
        intro bs
        induction bs with
        | nil => simp [PyData.bulkAll]
        | cons b r ih =>
          rw [List.map_cons, List.length_cons]
          unfold PyData.bulkAll
          simp only [PyData.bulk]
          omega
      have := hb bs
      simp only [PyData.bulk]
      omega
end Dx
namespace Lw
open PySem L2 Dx
/-! ### the text by places (printed by wip/gen/gen.py) -/
def top (i : Nat) : Stmt := PySem.Challenge.pw_everyprompt_k01_plain_values_told.main.body.getD i (.Pass ⟨0, 0, 0, 0⟩)
/-- what the top leaves -/
structure Facts (K : PySem.W.Frag) (mg : Str → Option Value) : Prop where
  z_abs : mg "abs" = none
  z_all : mg "all" = none
  z_bool : mg "bool" = none
  z_int : mg "int" = none
  z_isinstance : mg "isinstance" = none
  z_len : mg "len" = none
  z_list : mg "list" = none
  z_max : mg "max" = none
  z_range : mg "range" = none
  z_repr : mg "repr" = none
  z_str : mg "str" = none
  z_tuple : mg "tuple" = none
abbrev FnD (K : PySem.W.Frag) (x qual : Str) (st : Stmt) (dvs : List V) (f : Addr) (fd : FuncData) : Prop := FunD K x qual (defArgs st) (defBody st) (defScope st) dvs [] f fd
/-! ### is_integer -/
abbrev s_is_integer : Stmt := (top 2)
abbrev sc_is_integer : Scope := defScope s_is_integer
abbrev N_is_integer : List Str := ["value"]
theorem S_is_integer : FnScope N_is_integer ["value"] sc_is_integer := ⟨rfl, rfl, rfl, by decide +kernel, rfl, by decide +kernel, by decide +kernel⟩
def mx_is_integer_0 {α : Type} (a e c : List α) : List α := match a, e, c with
  | [a0], [], [] => [a0]
  | _, _, _ => []
abbrev g_is_integer_0 : List D → List D → List D := fun ds es => mx_is_integer_0 ds [] es
theorem b_is_integer_0 {K : PySem.W.Frag} {f : Addr} {fd : FuncData} (F : FnD K "is_integer" "is_integer" s_is_integer [] f fd) : Bnd K fd ["value"] 1 [] g_is_integer_0 :=
  bnd0 F 1 [] mx_is_integer_0 (fun {α β R a c b d'} ra la rc lc => by
      match a, b, ra, la, c, d', rc, lc with
      | _, _, (.cons a0 .nil), _, _, _, .nil, _ => exact (.cons a0 .nil))
    (fun kV doc pm an cdv ct us ws h1 h2 => by
      match us, h1, ws, h2 with
      | [a0], _, [], _ => rfl)
def mx_is_integer_1 {α : Type} (a e c : List α) : List α := match a, e, c with
  | [], [], [c0] => [c0]
  | _, _, _ => []
abbrev g_is_integer_1 : List D → List D → List D := fun ds es => mx_is_integer_1 ds [] es
theorem b_is_integer_1 {K : PySem.W.Frag} {f : Addr} {fd : FuncData} (F : FnD K "is_integer" "is_integer" s_is_integer [] f fd) : Bnd K fd ["value"] 0 ["value"] g_is_integer_1 :=
  bnd0 F 0 ["value"] mx_is_integer_1 (fun {α β R a c b d'} ra la rc lc => by
      match a, b, ra, la, c, d', rc, lc with
      | _, _, .nil, _, _, _, (.cons c0 .nil), _ => exact (.cons c0 .nil))
    (fun kV doc pm an cdv ct us ws h1 h2 => by
      match us, h1, ws, h2 with
      | [], _, [c0], _ => rfl)
def t_is_integer : TDS :=
    (dRet (dAndV (dIsi "int" (dVar 0)) (dNotV (dIsi "bool" (dVar 0)))))
theorem der_is_integer {P : Program} {w : World} {K : PySem.W.Frag} {mg : Str → Option Value} {base : Heap} (T : Facts K mg) :
    Der P w K mg base N_is_integer "is_integer" sc_is_integer (defBody s_is_integer) 0 (t_is_integer) := by
  intro f cdv A outer s H E hr hgd
  have nd := S_is_integer.nd
  exact (dss_one (ds_ret (de_and (de_isi (T := "int") (by decide) rfl T.z_isinstance rfl T.z_int (by decide +kernel) (de_var 0)) (de_one (de_not (de_isi (T := "bool") (by decide) rfl T.z_isinstance rfl T.z_bool (by decide +kernel) (de_var 0)))))))
/-! ### is_within -/
abbrev s_is_within : Stmt := (top 3)
abbrev sc_is_within : Scope := defScope s_is_within
abbrev N_is_within : List Str := ["value", "least", "most"]
theorem S_is_within : FnScope N_is_within ["value", "least", "most"] sc_is_within := ⟨rfl, rfl, rfl, by decide +kernel, rfl, by decide +kernel, by decide +kernel⟩
def mx_is_within_0 {α : Type} (a e c : List α) : List α := match a, e, c with
  | [a0, a1, a2], [], [] => [a0, a1, a2]
  | _, _, _ => []
abbrev g_is_within_0 : List D → List D → List D := fun ds es => mx_is_within_0 ds [] es
theorem b_is_within_0 {K : PySem.W.Frag} {f : Addr} {fd : FuncData} (F : FnD K "is_within" "is_within" s_is_within [] f fd) : Bnd K fd ["value", "least", "most"] 3 [] g_is_within_0 :=
  bnd0 F 3 [] mx_is_within_0 (fun {α β R a c b d'} ra la rc lc => by
      match a, b, ra, la, c, d', rc, lc with
      | _, _, (.cons a0 (.cons a1 (.cons a2 .nil))), _, _, _, .nil, _ => exact (.cons a0 (.cons a1 (.cons a2 .nil))))
    (fun kV doc pm an cdv ct us ws h1 h2 => by
      match us, h1, ws, h2 with
      | [a0, a1, a2], _, [], _ => rfl)
def mx_is_within_1 {α : Type} (a e c : List α) : List α := match a, e, c with
  | [], [], [c0, c1, c2] => [c2, c1, c0]
  | _, _, _ => []
abbrev g_is_within_1 : List D → List D → List D := fun ds es => mx_is_within_1 ds [] es
theorem b_is_within_1 {K : PySem.W.Frag} {f : Addr} {fd : FuncData} (F : FnD K "is_within" "is_within" s_is_within [] f fd) : Bnd K fd ["value", "least", "most"] 0 ["most", "least", "value"] g_is_within_1 :=
  bnd0 F 0 ["most", "least", "value"] mx_is_within_1 (fun {α β R a c b d'} ra la rc lc => by
      match a, b, ra, la, c, d', rc, lc with
      | _, _, .nil, _, _, _, (.cons c0 (.cons c1 (.cons c2 .nil))), _ => exact (.cons c2 (.cons c1 (.cons c0 .nil))))
    (fun kV doc pm an cdv ct us ws h1 h2 => by
      match us, h1, ws, h2 with
      | [], _, [c0, c1, c2], _ => rfl)
def t_is_within (sp_is_integer : SpD) : TDS :=
    (dSeq (dIfS (dNot (dTst (dCall sp_is_integer 1 0 g_is_integer_0 (dCons (dVar 0) dNil) dNil)))
    (dRet (dC (.bl false)))
    dNext)
    (dRet (dAndV (dOrV (dBin fIsN (dVar 1) (dC .non)) (dBin fLe (dVar 1) (dVar 0))) (dOrV (dBin fIsN (dVar 2) (dC .non)) (dBin fLe (dVar 0) (dVar 2))))))
theorem der_is_within {P : Program} {w : World} {K : PySem.W.Frag} {mg : Str → Option Value} {base : Heap} (T : Facts K mg)
    {f_is_integer : Addr} {fd_is_integer : FuncData} {sp_is_integer : SpD} (F_is_integer : FnD K "is_integer" "is_integer" s_is_integer [] f_is_integer fd_is_integer) (m_is_integer : mg "is_integer" = some (.ref f_is_integer)) (G_is_integer : FnG P w K mg base 1 f_is_integer fd_is_integer ["value"] sp_is_integer) :
    Der P w K mg base N_is_within "is_within" sc_is_within (defBody s_is_within) 1 (t_is_within sp_is_integer) := by
  intro f cdv A outer s H E hr hgd
  have nd := S_is_within.nd
  have tk : Takes (dX P w K mg base N_is_within "is_within" sc_is_within f cdv A outer s H E) (wE E) := takes_of rfl rfl rfl rfl
  exact (dss_cons (ds_if (dt_not (dt_val (de_call (G_is_integer.up_ (by decide)) hr hgd tk rfl m_is_integer F_is_integer.kp (b_is_integer_0 F_is_integer) (da_cons (de_var 0) da_nil))))
      (dss_one (ds_ret de_bl))
      dss_nil)
      (dss_one (ds_ret (de_and (de_or (de_cmp op_isN o2_isN (de_var 1) de_non) (de_one (de_cmp op_le o2_le (de_var 1) (de_var 0)))) (de_one (de_or (de_cmp op_isN o2_isN (de_var 2) de_non) (de_one (de_cmp op_le o2_le (de_var 0) (de_var 2)))))))))
/-! ### is_list -/
abbrev s_is_list : Stmt := (top 4)
abbrev sc_is_list : Scope := defScope s_is_list
abbrev N_is_list : List Str := ["value"]
theorem S_is_list : FnScope N_is_list ["value"] sc_is_list := ⟨rfl, rfl, rfl, by decide +kernel, rfl, by decide +kernel, by decide +kernel⟩
def mx_is_list_0 {α : Type} (a e c : List α) : List α := match a, e, c with
  | [a0], [], [] => [a0]
  | _, _, _ => []
abbrev g_is_list_0 : List D → List D → List D := fun ds es => mx_is_list_0 ds [] es
theorem b_is_list_0 {K : PySem.W.Frag} {f : Addr} {fd : FuncData} (F : FnD K "is_list" "is_list" s_is_list [] f fd) : Bnd K fd ["value"] 1 [] g_is_list_0 :=
  bnd0 F 1 [] mx_is_list_0 (fun {α β R a c b d'} ra la rc lc => by
      match a, b, ra, la, c, d', rc, lc with
      | _, _, (.cons a0 .nil), _, _, _, .nil, _ => exact (.cons a0 .nil))
    (fun kV doc pm an cdv ct us ws h1 h2 => by
      match us, h1, ws, h2 with
      | [a0], _, [], _ => rfl)
def mx_is_list_1 {α : Type} (a e c : List α) : List α := match a, e, c with
  | [], [], [c0] => [c0]
  | _, _, _ => []
abbrev g_is_list_1 : List D → List D → List D := fun ds es => mx_is_list_1 ds [] es
theorem b_is_list_1 {K : PySem.W.Frag} {f : Addr} {fd : FuncData} (F : FnD K "is_list" "is_list" s_is_list [] f fd) : Bnd K fd ["value"] 0 ["value"] g_is_list_1 :=
  bnd0 F 0 ["value"] mx_is_list_1 (fun {α β R a c b d'} ra la rc lc => by
      match a, b, ra, la, c, d', rc, lc with
      | _, _, .nil, _, _, _, (.cons c0 .nil), _ => exact (.cons c0 .nil))
    (fun kV doc pm an cdv ct us ws h1 h2 => by
      match us, h1, ws, h2 with
      | [], _, [c0], _ => rfl)
def t_is_list : TDS :=
    (dRet (dIsiT ["list", "tuple"] (dVar 0)))
theorem der_is_list {P : Program} {w : World} {K : PySem.W.Frag} {mg : Str → Option Value} {base : Heap} (T : Facts K mg) :
    Der P w K mg base N_is_list "is_list" sc_is_list (defBody s_is_list) 0 (t_is_list) := by
  intro f cdv A outer s H E hr hgd
  have nd := S_is_list.nd
  exact (dss_one (ds_ret (de_isi2 (S := "list") (T := "tuple") (by decide) (by decide) rfl T.z_isinstance rfl T.z_list (by decide +kernel) rfl T.z_tuple (by decide +kernel) (de_var 0))))
/-! ### is_row -/
abbrev s_is_row : Stmt := (top 5)
abbrev sc_is_row : Scope := defScope s_is_row
abbrev N_is_row : List Str := ["value", "length", "each"]
theorem S_is_row : FnScope N_is_row ["value", "length"] sc_is_row := ⟨rfl, rfl, rfl, by decide +kernel, rfl, by decide +kernel, by decide +kernel⟩
def mx_is_row_0 {α : Type} (a e c : List α) : List α := match a, e, c with
  | [a0, a1], [], [] => [a0, a1]
  | _, _, _ => []
abbrev g_is_row_0 : List D → List D → List D := fun ds es => mx_is_row_0 ds [] es
theorem b_is_row_0 {K : PySem.W.Frag} {f : Addr} {fd : FuncData} (F : FnD K "is_row" "is_row" s_is_row [] f fd) : Bnd K fd ["value", "length"] 2 [] g_is_row_0 :=
  bnd0 F 2 [] mx_is_row_0 (fun {α β R a c b d'} ra la rc lc => by
      match a, b, ra, la, c, d', rc, lc with
      | _, _, (.cons a0 (.cons a1 .nil)), _, _, _, .nil, _ => exact (.cons a0 (.cons a1 .nil)))
    (fun kV doc pm an cdv ct us ws h1 h2 => by
      match us, h1, ws, h2 with
      | [a0, a1], _, [], _ => rfl)
def mx_is_row_1 {α : Type} (a e c : List α) : List α := match a, e, c with
  | [], [], [c0, c1] => [c0, c1]
  | _, _, _ => []
abbrev g_is_row_1 : List D → List D → List D := fun ds es => mx_is_row_1 ds [] es
theorem b_is_row_1 {K : PySem.W.Frag} {f : Addr} {fd : FuncData} (F : FnD K "is_row" "is_row" s_is_row [] f fd) : Bnd K fd ["value", "length"] 0 ["value", "length"] g_is_row_1 :=
  bnd0 F 0 ["value", "length"] mx_is_row_1 (fun {α β R a c b d'} ra la rc lc => by
      match a, b, ra, la, c, d', rc, lc with
      | _, _, .nil, _, _, _, (.cons c0 (.cons c1 .nil)), _ => exact (.cons c0 (.cons c1 .nil)))
    (fun kV doc pm an cdv ct us ws h1 h2 => by
      match us, h1, ws, h2 with
      | [], _, [c0, c1], _ => rfl)
def t_is_row (sp_is_list : SpD) (sp_is_integer : SpD) : TDS :=
    (dRet (dAndV (dCall sp_is_list 1 0 g_is_list_0 (dCons (dVar 0) dNil) dNil) (dAndV (dBin fEq (dCB fLen (dCons (dVar 0) dNil)) (dVar 1)) (dCB fAll (dCons (dLc (dISeq (dVar 0)) (gN 2) dYes (dCall sp_is_integer 1 0 g_is_integer_0 (dCons (dVar 2) dNil) dNil) [2]) dNil)))))
theorem der_is_row {P : Program} {w : World} {K : PySem.W.Frag} {mg : Str → Option Value} {base : Heap} (T : Facts K mg)
    {f_is_list : Addr} {fd_is_list : FuncData} {sp_is_list : SpD} (F_is_list : FnD K "is_list" "is_list" s_is_list [] f_is_list fd_is_list) (m_is_list : mg "is_list" = some (.ref f_is_list)) (G_is_list : FnG P w K mg base 1 f_is_list fd_is_list ["value"] sp_is_list)
    {f_is_integer : Addr} {fd_is_integer : FuncData} {sp_is_integer : SpD} (F_is_integer : FnD K "is_integer" "is_integer" s_is_integer [] f_is_integer fd_is_integer) (m_is_integer : mg "is_integer" = some (.ref f_is_integer)) (G_is_integer : FnG P w K mg base 1 f_is_integer fd_is_integer ["value"] sp_is_integer) :
    Der P w K mg base N_is_row "is_row" sc_is_row (defBody s_is_row) 1 (t_is_row sp_is_list sp_is_integer) := by
  intro f cdv A outer s H E hr hgd
  have nd := S_is_row.nd
  have tk : Takes (dX P w K mg base N_is_row "is_row" sc_is_row f cdv A outer s H E) (wE E) := takes_of rfl rfl rfl rfl
  exact (dss_one (ds_ret (de_and (de_call (G_is_list.up_ (by decide)) hr hgd tk rfl m_is_list F_is_list.kp (b_is_list_0 F_is_list) (da_cons (de_var 0) da_nil)) (de_and (de_cmp (op_eq2 hr.units) o2_eq (de_cb call_len3 cd_len rfl T.z_len (by decide +kernel) (da_cons (de_var 0) da_nil)) (de_var 1)) (de_one (de_cb (cr_all rfl) cd_all rfl T.z_all (by decide +kernel) (da_cons (de_lc (own := [("each", 2)]) rfl nd (di_seq (de_var 0)) (blkOk_by (own := [("each", 2)]) (N := N_is_row) (sc := sc_is_row) (by decide +kernel)) (fun _ _ _ _ _ => (gp_name (vs := [2]) nd (by decide) rfl (Or.inl rfl))) (fun _ _ _ _ _ => dts_nil) (fun _ _ _ _ _ => (de_call (G_is_integer.up_ (by decide)) hr hgd takes0 rfl m_is_integer F_is_integer.kp (b_is_integer_0 F_is_integer) (da_cons (de_var 2) da_nil)))) da_nil)))))))
/-! ### is_text -/
abbrev s_is_text : Stmt := (top 6)
abbrev sc_is_text : Scope := defScope s_is_text
abbrev N_is_text : List Str := ["value", "letters", "most", "each"]
theorem S_is_text : FnScope N_is_text ["value", "letters", "most"] sc_is_text := ⟨rfl, rfl, rfl, by decide +kernel, rfl, by decide +kernel, by decide +kernel⟩
def mx_is_text_0 {α : Type} (a e c : List α) : List α := match a, e, c with
  | [a0, a1], [e0], [] => [a0, a1, e0]
  | _, _, _ => []
abbrev g_is_text_0 : List D → List D → List D := fun ds es => mx_is_text_0 ds [.int 1000] es
theorem b_is_text_0 {K : PySem.W.Frag} {f : Addr} {fd : FuncData} (F : FnD K "is_text" "is_text" s_is_text [.int 1000] f fd) : Bnd K fd ["value", "letters", "most"] 2 [] g_is_text_0 :=
  bnd1 F [.int 1000] (fun _ => (.cons (.int _) .nil)) (by simp) 2 [] mx_is_text_0 (fun {α β R a c e b d' e'} ra la re le rc lc => by
      match a, b, ra, la, e, e', re, le, c, d', rc, lc with
      | _, _, (.cons a0 (.cons a1 .nil)), _, _, _, (.cons e0 .nil), _, _, _, .nil, _ => exact (.cons a0 (.cons a1 (.cons e0 .nil))))
    (fun T kV doc pm an cdv ct us its ws h1 h2 h3 => by
      match us, h1, its, h2, ws, h3 with
      | [a0, a1], _, [e0], _, [], _ => exact ⟨_, rfl, rfl⟩)
def mx_is_text_1 {α : Type} (a e c : List α) : List α := match a, e, c with
  | [a0, a1, a2], [e0], [] => [a0, a1, a2]
  | _, _, _ => []
abbrev g_is_text_1 : List D → List D → List D := fun ds es => mx_is_text_1 ds [.int 1000] es
theorem b_is_text_1 {K : PySem.W.Frag} {f : Addr} {fd : FuncData} (F : FnD K "is_text" "is_text" s_is_text [.int 1000] f fd) : Bnd K fd ["value", "letters", "most"] 3 [] g_is_text_1 :=
  bnd1 F [.int 1000] (fun _ => (.cons (.int _) .nil)) (by simp) 3 [] mx_is_text_1 (fun {α β R a c e b d' e'} ra la re le rc lc => by
      match a, b, ra, la, e, e', re, le, c, d', rc, lc with
      | _, _, (.cons a0 (.cons a1 (.cons a2 .nil))), _, _, _, (.cons e0 .nil), _, _, _, .nil, _ => exact (.cons a0 (.cons a1 (.cons a2 .nil))))
    (fun T kV doc pm an cdv ct us its ws h1 h2 h3 => by
      match us, h1, its, h2, ws, h3 with
      | [a0, a1, a2], _, [e0], _, [], _ => exact ⟨_, rfl, rfl⟩)
def mx_is_text_2 {α : Type} (a e c : List α) : List α := match a, e, c with
  | [], [e0], [c0, c1, c2] => [c2, c1, c0]
  | _, _, _ => []
abbrev g_is_text_2 : List D → List D → List D := fun ds es => mx_is_text_2 ds [.int 1000] es
theorem b_is_text_2 {K : PySem.W.Frag} {f : Addr} {fd : FuncData} (F : FnD K "is_text" "is_text" s_is_text [.int 1000] f fd) : Bnd K fd ["value", "letters", "most"] 0 ["most", "letters", "value"] g_is_text_2 :=
  bnd1 F [.int 1000] (fun _ => (.cons (.int _) .nil)) (by simp) 0 ["most", "letters", "value"] mx_is_text_2 (fun {α β R a c e b d' e'} ra la re le rc lc => by
      match a, b, ra, la, e, e', re, le, c, d', rc, lc with
      | _, _, .nil, _, _, _, (.cons e0 .nil), _, _, _, (.cons c0 (.cons c1 (.cons c2 .nil))), _ => exact (.cons c2 (.cons c1 (.cons c0 .nil))))
    (fun T kV doc pm an cdv ct us its ws h1 h2 h3 => by
      match us, h1, its, h2, ws, h3 with
      | [], _, [e0], _, [c0, c1, c2], _ => exact ⟨_, rfl, rfl⟩)
def t_is_text (sp_is_list : SpD) (sp_is_within : SpD) : TDS :=
    (dRet (dAndV (dCall sp_is_list 1 0 g_is_list_0 (dCons (dVar 0) dNil) dNil) (dAndV (dBin fLe (dCB fLen (dCons (dVar 0) dNil)) (dVar 2)) (dCB fAll (dCons (dLc (dISeq (dVar 0)) (gN 3) dYes (dCall sp_is_within 3 0 g_is_within_0 (dCons (dVar 3) (dCons (dC (.int 0)) (dCons (dBin fSub (dVar 1) (dC (.int 1))) dNil))) dNil) [3]) dNil)))))
theorem der_is_text {P : Program} {w : World} {K : PySem.W.Frag} {mg : Str → Option Value} {base : Heap} (T : Facts K mg)
    {f_is_list : Addr} {fd_is_list : FuncData} {sp_is_list : SpD} (F_is_list : FnD K "is_list" "is_list" s_is_list [] f_is_list fd_is_list) (m_is_list : mg "is_list" = some (.ref f_is_list)) (G_is_list : FnG P w K mg base 1 f_is_list fd_is_list ["value"] sp_is_list)
    {f_is_within : Addr} {fd_is_within : FuncData} {sp_is_within : SpD} (F_is_within : FnD K "is_within" "is_within" s_is_within [] f_is_within fd_is_within) (m_is_within : mg "is_within" = some (.ref f_is_within)) (G_is_within : FnG P w K mg base 2 f_is_within fd_is_within ["value", "least", "most"] sp_is_within) :
    Der P w K mg base N_is_text "is_text" sc_is_text (defBody s_is_text) 2 (t_is_text sp_is_list sp_is_within) := by
  intro f cdv A outer s H E hr hgd
  have nd := S_is_text.nd
  have tk : Takes (dX P w K mg base N_is_text "is_text" sc_is_text f cdv A outer s H E) (wE E) := takes_of rfl rfl rfl rfl
  exact (dss_one (ds_ret (de_and (de_call (G_is_list.up_ (by decide)) hr hgd tk rfl m_is_list F_is_list.kp (b_is_list_0 F_is_list) (da_cons (de_var 0) da_nil)) (de_and (de_cmp op_le o2_le (de_cb call_len3 cd_len rfl T.z_len (by decide +kernel) (da_cons (de_var 0) da_nil)) (de_var 2)) (de_one (de_cb (cr_all rfl) cd_all rfl T.z_all (by decide +kernel) (da_cons (de_lc (own := [("each", 3)]) rfl nd (di_seq (de_var 0)) (blkOk_by (own := [("each", 3)]) (N := N_is_text) (sc := sc_is_text) (by decide +kernel)) (fun _ _ _ _ _ => (gp_name (vs := [3]) nd (by decide) rfl (Or.inl rfl))) (fun _ _ _ _ _ => dts_nil) (fun _ _ _ _ _ => (de_call (G_is_within.up_ (by decide)) hr hgd takes0 rfl m_is_within F_is_within.kp (b_is_within_0 F_is_within) (da_cons (de_var 3) (da_cons de_int (da_cons (de_op op_sub o2_sub (de_var 1) de_int) da_nil)))))) da_nil)))))))
/-! ### _law_vessel -/
abbrev s_law_vessel : Stmt := (top 8)
abbrev sc_law_vessel : Scope := defScope s_law_vessel
abbrev N_law_vessel : List Str := ["script", "cell"]
theorem S_law_vessel : FnScope N_law_vessel ["script"] sc_law_vessel := ⟨rfl, rfl, rfl, by decide +kernel, rfl, by decide +kernel, by decide +kernel⟩
def mx_law_vessel_0 {α : Type} (a e c : List α) : List α := match a, e, c with
  | [a0], [], [] => [a0]
  | _, _, _ => []
abbrev g_law_vessel_0 : List D → List D → List D := fun ds es => mx_law_vessel_0 ds [] es
theorem b_law_vessel_0 {K : PySem.W.Frag} {f : Addr} {fd : FuncData} (F : FnD K "_law_vessel" "_law_vessel" s_law_vessel [] f fd) : Bnd K fd ["script"] 1 [] g_law_vessel_0 :=
  bnd0 F 1 [] mx_law_vessel_0 (fun {α β R a c b d'} ra la rc lc => by
      match a, b, ra, la, c, d', rc, lc with
      | _, _, (.cons a0 .nil), _, _, _, .nil, _ => exact (.cons a0 .nil))
    (fun kV doc pm an cdv ct us ws h1 h2 => by
      match us, h1, ws, h2 with
      | [a0], _, [], _ => rfl)
def t_law_vessel : TDS :=
    (dRet (dLstM (dCons (dLc (dISeq (dSl (dVar 0) dNoP (dPart (dC (.int 60))))) (gN 1) dYes (dCB fInt (dCons (dVar 1) dNil)) [1]) (dCons (dC (.int 0)) (dCons (dC (.int 0)) dNil)))))
theorem der_law_vessel {P : Program} {w : World} {K : PySem.W.Frag} {mg : Str → Option Value} {base : Heap} (T : Facts K mg) :
    Der P w K mg base N_law_vessel "_law_vessel" sc_law_vessel (defBody s_law_vessel) 0 (t_law_vessel) := by
  intro f cdv A outer s H E hr hgd
  have nd := S_law_vessel.nd
  exact (dss_one (ds_ret (de_lstM (da_cons (de_lc (own := [("cell", 1)]) rfl nd (di_seq (de_sl (de_var 0) do_none (do_some de_int))) (blkOk_by (own := [("cell", 1)]) (N := N_law_vessel) (sc := sc_law_vessel) (by decide +kernel)) (fun _ _ _ _ _ => (gp_name (vs := [1]) nd (by decide) rfl (Or.inl rfl))) (fun _ _ _ _ _ => dts_nil) (fun _ _ _ _ _ => (de_ct call_int1 cd_int rfl T.z_int (by decide +kernel) (da_cons (de_var 1) da_nil)))) (da_cons de_int (da_cons de_int da_nil))))))
/-! ### _law_draught -/
abbrev s_law_draught : Stmt := (top 9)
abbrev sc_law_draught : Scope := defScope s_law_draught
abbrev N_law_draught : List Str := ["vessel", "many", "rest", "turn", "cell", "mixed"]
theorem S_law_draught : FnScope N_law_draught ["vessel", "many"] sc_law_draught := ⟨rfl, rfl, rfl, by decide +kernel, rfl, by decide +kernel, by decide +kernel⟩
def mx_law_draught_0 {α : Type} (a e c : List α) : List α := match a, e, c with
  | [a0, a1], [], [] => [a0, a1]
  | _, _, _ => []
abbrev g_law_draught_0 : List D → List D → List D := fun ds es => mx_law_draught_0 ds [] es
theorem b_law_draught_0 {K : PySem.W.Frag} {f : Addr} {fd : FuncData} (F : FnD K "_law_draught" "_law_draught" s_law_draught [] f fd) : Bnd K fd ["vessel", "many"] 2 [] g_law_draught_0 :=
  bnd0 F 2 [] mx_law_draught_0 (fun {α β R a c b d'} ra la rc lc => by
      match a, b, ra, la, c, d', rc, lc with
      | _, _, (.cons a0 (.cons a1 .nil)), _, _, _, .nil, _ => exact (.cons a0 (.cons a1 .nil)))
    (fun kV doc pm an cdv ct us ws h1 h2 => by
      match us, h1, ws, h2 with
      | [a0, a1], _, [], _ => rfl)
def t_law_draught : TDS :=
    (dSeq (dIfS (dTst (dBin fEq (dBin fIx (dVar 0) (dC (.int 0))) (dLst dNil)))
    (dRet (dC (.int 0)))
    dNext)
    (dSeq (dIfS (dTst (dBin fGt (dBin fIx (dVar 0) (dC (.int 2))) (dC (.int 0))))
    (dSeq (dAsg (dCB fInt (dCons (dBin fIx (dVar 0) (dC (.int 2))) dNil)) (gN 2))
    (dSeq (dSetIx (dBin fFd (dVar 2) (dVar 1)) (dVar 0) (dC (.int 2)))
    (dRet (dBin fMod (dCB fInt (dCons (dVar 2) dNil)) (dVar 1)))))
    dNext)
    (dSeq (dAsg (dBin fIx (dVar 0) (dC (.int 1))) (gN 3))
    (dSeq (dSetIx (dBin fAdd (dVar 3) (dC (.int 1))) (dVar 0) (dC (.int 1)))
    (dSeq (dAsg (dBin fIx (dBin fIx (dVar 0) (dC (.int 0))) (dBin fMod (dCB fInt (dCons (dVar 3) dNil)) (dCB fLen (dCons (dBin fIx (dVar 0) (dC (.int 0))) dNil)))) (gN 4))
    (dSeq (dIfS (dAnd (dTst (dBin fLt (dVar 3) (dCB fLen (dCons (dBin fIx (dVar 0) (dC (.int 0))) dNil)))) (dTst (dBin fGe (dCB fAbs (dCons (dVar 4) dNil)) (dBin fPow (dC (.int 10)) (dC (.int 18))))))
    (dSeq (dAsg (dBin fAdd (dBin fMul (dC (.int 2)) (dBin fSub (dCB fAbs (dCons (dVar 4) dNil)) (dBin fPow (dC (.int 10)) (dC (.int 18))))) (dCB fInt (dCons (dBin fLt (dVar 4) (dC (.int 0))) dNil))) (gN 2))
    (dSeq (dSetIx (dBin fFd (dVar 2) (dVar 1)) (dVar 0) (dC (.int 2)))
    (dRet (dBin fMod (dCB fInt (dCons (dVar 2) dNil)) (dVar 1)))))
    dNext)
    (dSeq (dAsg (dBin fMod (dCB fInt (dCons (dBin fPow (dBin fAdd (dBin fAdd (dBin fMod (dCB fInt (dCons (dVar 4) dNil)) (dC (.int 2147483563))) (dBin fMul (dC (.int 41081)) (dVar 3))) (dC (.int 2633))) (dC (.int 5))) dNil)) (dC (.int 2147483549))) (gN 5))
    (dSeq (dAsg (dBin fMod (dCB fInt (dCons (dBin fPow (dBin fAdd (dBin fAdd (dBin fMul (dVar 5) (dBin fAdd (dBin fMul (dC (.int 2)) (dVar 3)) (dC (.int 6151)))) (dBin fMul (dBin fMul (dC (.int 90121)) (dVar 3)) (dVar 3))) (dC (.int 41081))) (dC (.int 3))) dNil)) (dC (.int 2147483587))) (gN 5))
    (dRet (dBin fMod (dCB fInt (dCons (dBin fFd (dVar 5) (dC (.int 64))) dNil)) (dVar 1)))))))))))
theorem der_law_draught {P : Program} {w : World} {K : PySem.W.Frag} {mg : Str → Option Value} {base : Heap} (T : Facts K mg) :
    Der P w K mg base N_law_draught "_law_draught" sc_law_draught (defBody s_law_draught) 0 (t_law_draught) := by
  intro f cdv A outer s H E hr hgd
  have nd := S_law_draught.nd
  have po : PassesOwn (model P w) (dX P w K mg base N_law_draught "_law_draught" sc_law_draught f cdv A outer s H E).A (dX P w K mg base N_law_draught "_law_draught" sc_law_draught f cdv A outer s H E).env (dX P w K mg base N_law_draught "_law_draught" sc_law_draught f cdv A outer s H E).xe := passes_of rfl
  exact (dss_cons (ds_if (dt_cmp (op_eq2 hr.units) o2_eq (de_ix ix_seq o2_ix (de_var 0) de_int) (de_lst da_nil))
      (dss_one (ds_ret de_int))
      dss_nil)
      (dss_cons (ds_if (dt_cmp op_gt o2_gt (de_ix ix_seq o2_ix (de_var 0) de_int) de_int)
      (dss_cons (ds_set 2 nd (de_ct call_int1 cd_int rfl T.z_int (by decide +kernel) (da_cons (de_ix ix_seq o2_ix (de_var 0) de_int) da_nil)))
      (dss_cons (ds_setIx (de_op op_fd o2_fd (de_var 2) (de_var 1)) (de_var 0) de_int)
      (dss_one (ds_ret (de_op op_modN o2_mod (de_ct call_int1 cd_int rfl T.z_int (by decide +kernel) (da_cons (de_var 2) da_nil)) (de_var 1))))))
      dss_nil)
      (dss_cons (ds_set 3 nd (de_ix ix_seq o2_ix (de_var 0) de_int))
      (dss_cons (ds_setIx (de_op op_add4 o2_add (de_var 3) de_int) (de_var 0) de_int)
      (dss_cons (ds_set 4 nd (de_ix ix_seq o2_ix (de_ix ix_seq o2_ix (de_var 0) de_int) (de_op op_modN o2_mod (de_ct call_int1 cd_int rfl T.z_int (by decide +kernel) (da_cons (de_var 3) da_nil)) (de_cb call_len3 cd_len rfl T.z_len (by decide +kernel) (da_cons (de_ix ix_seq o2_ix (de_var 0) de_int) da_nil)))))
      (dss_cons (ds_if (dt_w (dw_and (dt_cmp op_lt o2_lt (de_var 3) (de_cb call_len3 cd_len rfl T.z_len (by decide +kernel) (da_cons (de_ix ix_seq o2_ix (de_var 0) de_int) da_nil))) (dw_and1 (dt_cmp op_ge o2_ge (de_cb call_abs cd_abs rfl T.z_abs (by decide +kernel) (da_cons (de_var 4) da_nil)) (de_op op_pow o2_pow de_int de_int)))))
      (dss_cons (ds_set 2 nd (de_op op_add4 o2_add (de_op op_mul3 o2_mul de_int (de_op op_sub o2_sub (de_cb call_abs cd_abs rfl T.z_abs (by decide +kernel) (da_cons (de_var 4) da_nil)) (de_op op_pow o2_pow de_int de_int))) (de_ct call_int1 cd_int rfl T.z_int (by decide +kernel) (da_cons (de_cmp op_lt o2_lt (de_var 4) de_int) da_nil))))
      (dss_cons (ds_setIx (de_op op_fd o2_fd (de_var 2) (de_var 1)) (de_var 0) de_int)
      (dss_one (ds_ret (de_op op_modN o2_mod (de_ct call_int1 cd_int rfl T.z_int (by decide +kernel) (da_cons (de_var 2) da_nil)) (de_var 1))))))
      dss_nil)
      (dss_cons (ds_set 5 nd (de_op op_modN o2_mod (de_ct call_int1 cd_int rfl T.z_int (by decide +kernel) (da_cons (de_op op_pow o2_pow (de_op op_add4 o2_add (de_op op_add4 o2_add (de_op op_modN o2_mod (de_ct call_int1 cd_int rfl T.z_int (by decide +kernel) (da_cons (de_var 4) da_nil)) de_int) (de_op op_mul3 o2_mul de_int (de_var 3))) de_int) de_int) da_nil)) de_int))
      (dss_cons (ds_set 5 nd (de_op op_modN o2_mod (de_ct call_int1 cd_int rfl T.z_int (by decide +kernel) (da_cons (de_op op_pow o2_pow (de_op op_add4 o2_add (de_op op_add4 o2_add (de_op op_mul3 o2_mul (de_var 5) (de_op op_add4 o2_add (de_op op_mul3 o2_mul de_int (de_var 3)) de_int)) (de_op op_mul3 o2_mul (de_op op_mul3 o2_mul de_int (de_var 3)) (de_var 3))) de_int) de_int) da_nil)) de_int))
      (dss_one (ds_ret (de_op op_modN o2_mod (de_ct call_int1 cd_int rfl T.z_int (by decide +kernel) (da_cons (de_op op_fd o2_fd (de_var 5) de_int) da_nil)) (de_var 1))))))))))))
/-! ### _law_cupful -/
abbrev s_law_cupful : Stmt := (top 10)
abbrev sc_law_cupful : Scope := defScope s_law_cupful
abbrev N_law_cupful : List Str := ["vessel", "some"]
theorem S_law_cupful : FnScope N_law_cupful ["vessel", "some"] sc_law_cupful := ⟨rfl, rfl, rfl, by decide +kernel, rfl, by decide +kernel, by decide +kernel⟩
def mx_law_cupful_0 {α : Type} (a e c : List α) : List α := match a, e, c with
  | [a0, a1], [], [] => [a0, a1]
  | _, _, _ => []
abbrev g_law_cupful_0 : List D → List D → List D := fun ds es => mx_law_cupful_0 ds [] es
theorem b_law_cupful_0 {K : PySem.W.Frag} {f : Addr} {fd : FuncData} (F : FnD K "_law_cupful" "_law_cupful" s_law_cupful [] f fd) : Bnd K fd ["vessel", "some"] 2 [] g_law_cupful_0 :=
  bnd0 F 2 [] mx_law_cupful_0 (fun {α β R a c b d'} ra la rc lc => by
      match a, b, ra, la, c, d', rc, lc with
      | _, _, (.cons a0 (.cons a1 .nil)), _, _, _, .nil, _ => exact (.cons a0 (.cons a1 .nil)))
    (fun kV doc pm an cdv ct us ws h1 h2 => by
      match us, h1, ws, h2 with
      | [a0, a1], _, [], _ => rfl)
def t_law_cupful (sp_law_draught : SpD) : TDS :=
    (dRet (dBin fIx (dVar 1) (dCall sp_law_draught 2 0 g_law_draught_0 (dCons (dVar 0) (dCons (dCB fLen (dCons (dVar 1) dNil)) dNil)) dNil)))
theorem der_law_cupful {P : Program} {w : World} {K : PySem.W.Frag} {mg : Str → Option Value} {base : Heap} (T : Facts K mg)
    {f_law_draught : Addr} {fd_law_draught : FuncData} {sp_law_draught : SpD} (F_law_draught : FnD K "_law_draught" "_law_draught" s_law_draught [] f_law_draught fd_law_draught) (m_law_draught : mg "_law_draught" = some (.ref f_law_draught)) (G_law_draught : FnG P w K mg base 1 f_law_draught fd_law_draught ["vessel", "many"] sp_law_draught) :
    Der P w K mg base N_law_cupful "_law_cupful" sc_law_cupful (defBody s_law_cupful) 1 (t_law_cupful sp_law_draught) := by
  intro f cdv A outer s H E hr hgd
  have nd := S_law_cupful.nd
  have tk : Takes (dX P w K mg base N_law_cupful "_law_cupful" sc_law_cupful f cdv A outer s H E) (wE E) := takes_of rfl rfl rfl rfl
  exact (dss_one (ds_ret (de_ix ix_seq o2_ix (de_var 1) (de_call (G_law_draught.up_ (by decide)) hr hgd tk rfl m_law_draught F_law_draught.kp (b_law_draught_0 F_law_draught) (da_cons (de_var 0) (da_cons (de_cb call_len3 cd_len rfl T.z_len (by decide +kernel) (da_cons (de_var 1) da_nil)) da_nil))))))
/-! ### _law_value -/
abbrev s_law_value : Stmt := (top 11)
abbrev sc_law_value : Scope := defScope s_law_value
abbrev N_law_value : List Str := ["vessel", "number", "some"]
theorem S_law_value : FnScope N_law_value ["vessel"] sc_law_value := ⟨rfl, rfl, rfl, by decide +kernel, rfl, by decide +kernel, by decide +kernel⟩
def mx_law_value_0 {α : Type} (a e c : List α) : List α := match a, e, c with
  | [a0], [], [] => [a0]
  | _, _, _ => []
abbrev g_law_value_0 : List D → List D → List D := fun ds es => mx_law_value_0 ds [] es
theorem b_law_value_0 {K : PySem.W.Frag} {f : Addr} {fd : FuncData} (F : FnD K "_law_value" "_law_value" s_law_value [] f fd) : Bnd K fd ["vessel"] 1 [] g_law_value_0 :=
  bnd0 F 1 [] mx_law_value_0 (fun {α β R a c b d'} ra la rc lc => by
      match a, b, ra, la, c, d', rc, lc with
      | _, _, (.cons a0 .nil), _, _, _, .nil, _ => exact (.cons a0 .nil))
    (fun kV doc pm an cdv ct us ws h1 h2 => by
      match us, h1, ws, h2 with
      | [a0], _, [], _ => rfl)
def t_law_value (sp_law_cupful : SpD) (sp_law_draught : SpD) : TDS :=
    (dSeq (dAsg (dCall sp_law_cupful 2 0 g_law_cupful_0 (dCons (dVar 0) (dCons (dLst (dCons (dBin fSub (dCall sp_law_draught 2 0 g_law_draught_0 (dCons (dVar 0) (dCons (dC (.int 9)) dNil)) dNil) (dC (.int 4))) (dCons (dBin fAdd (dBin fPow (dC (.int 10)) (dC (.int 20))) (dCall sp_law_draught 2 0 g_law_draught_0 (dCons (dVar 0) (dCons (dC (.int 9)) dNil)) dNil)) (dCons (dUn fNeg (dCall sp_law_draught 2 0 g_law_draught_0 (dCons (dVar 0) (dCons (dC (.int 1000)) dNil)) dNil)) dNil)))) dNil)) dNil) (gN 1))
    (dSeq (dAsg (dLst (dCons (dVar 1) (dCons (dCB fStr (dCons (dVar 1) dNil)) (dCons (dC .non) (dCons (dC (.bl true)) (dCons (dC (.bl false)) (dCons (dLst (dCons (dVar 1) dNil)) (dCons (dTup (dCons (dVar 1) (dCons (dC (.int 2)) dNil))) (dCons (dDic1 (dVar 1) (dLst (dCons (dVar 1) dNil))) (dCons (dC (.str "")) (dCons (dLst dNil) (dCons (dTup dNil) (dCons (dLst (dCons (dLst (dCons (dVar 1) dNil)) (dCons (dTup (dCons (dC (.int 1)) (dCons (dLst (dCons (dC (.int 2)) dNil)) dNil))) dNil))) (dCons (dLst (dCons (dC (.bl true)) (dCons (dC (.int 0)) dNil))) (dCons (dC (.str "01")) dNil))))))))))))))) (gN 2))
    (dRet (dCall sp_law_cupful 2 0 g_law_cupful_0 (dCons (dVar 0) (dCons (dVar 2) dNil)) dNil))))
theorem der_law_value {P : Program} {w : World} {K : PySem.W.Frag} {mg : Str → Option Value} {base : Heap} (T : Facts K mg)
    {f_law_cupful : Addr} {fd_law_cupful : FuncData} {sp_law_cupful : SpD} (F_law_cupful : FnD K "_law_cupful" "_law_cupful" s_law_cupful [] f_law_cupful fd_law_cupful) (m_law_cupful : mg "_law_cupful" = some (.ref f_law_cupful)) (G_law_cupful : FnG P w K mg base 2 f_law_cupful fd_law_cupful ["vessel", "some"] sp_law_cupful)
    {f_law_draught : Addr} {fd_law_draught : FuncData} {sp_law_draught : SpD} (F_law_draught : FnD K "_law_draught" "_law_draught" s_law_draught [] f_law_draught fd_law_draught) (m_law_draught : mg "_law_draught" = some (.ref f_law_draught)) (G_law_draught : FnG P w K mg base 1 f_law_draught fd_law_draught ["vessel", "many"] sp_law_draught) :
    Der P w K mg base N_law_value "_law_value" sc_law_value (defBody s_law_value) 2 (t_law_value sp_law_cupful sp_law_draught) := by
  intro f cdv A outer s H E hr hgd
  have nd := S_law_value.nd
  have tk : Takes (dX P w K mg base N_law_value "_law_value" sc_law_value f cdv A outer s H E) (wE E) := takes_of rfl rfl rfl rfl
  have po : PassesOwn (model P w) (dX P w K mg base N_law_value "_law_value" sc_law_value f cdv A outer s H E).A (dX P w K mg base N_law_value "_law_value" sc_law_value f cdv A outer s H E).env (dX P w K mg base N_law_value "_law_value" sc_law_value f cdv A outer s H E).xe := passes_of rfl
  exact (dss_cons (ds_set 1 nd (de_call (G_law_cupful.up_ (by decide)) hr hgd tk rfl m_law_cupful F_law_cupful.kp (b_law_cupful_0 F_law_cupful) (da_cons (de_var 0) (da_cons (de_lst (da_cons (de_op op_sub o2_sub (de_call (G_law_draught.up_ (by decide)) hr hgd tk rfl m_law_draught F_law_draught.kp (b_law_draught_0 F_law_draught) (da_cons (de_var 0) (da_cons de_int da_nil))) de_int) (da_cons (de_op op_add4 o2_add (de_op op_pow o2_pow de_int de_int) (de_call (G_law_draught.up_ (by decide)) hr hgd tk rfl m_law_draught F_law_draught.kp (b_law_draught_0 F_law_draught) (da_cons (de_var 0) (da_cons de_int da_nil)))) (da_cons (de_un un_neg o1_neg (de_call (G_law_draught.up_ (by decide)) hr hgd tk rfl m_law_draught F_law_draught.kp (b_law_draught_0 F_law_draught) (da_cons (de_var 0) (da_cons de_int da_nil)))) da_nil)))) da_nil))))
      (dss_cons (ds_set 2 nd (de_lst (da_cons (de_var 1) (da_cons (de_ct call_str2 cd_str rfl T.z_str (by decide +kernel) (da_cons (de_var 1) da_nil)) (da_cons de_non (da_cons de_bl (da_cons de_bl (da_cons (de_lst (da_cons (de_var 1) da_nil)) (da_cons (de_tup (da_cons (de_var 1) (da_cons de_int da_nil))) (da_cons (de_dic1 (de_var 1) (de_lst (da_cons (de_var 1) da_nil))) (da_cons de_str (da_cons (de_lst da_nil) (da_cons (de_tup da_nil) (da_cons (de_lst (da_cons (de_lst (da_cons (de_var 1) da_nil)) (da_cons (de_tup (da_cons de_int (da_cons (de_lst (da_cons de_int da_nil)) da_nil))) da_nil))) (da_cons (de_lst (da_cons de_bl (da_cons de_int da_nil))) (da_cons de_str da_nil))))))))))))))))
      (dss_one (ds_ret (de_call (G_law_cupful.up_ (by decide)) hr hgd tk rfl m_law_cupful F_law_cupful.kp (b_law_cupful_0 F_law_cupful) (da_cons (de_var 0) (da_cons (de_var 2) da_nil)))))))
/-! ### _law_own_integer -/
abbrev s_law_own_integer : Stmt := (top 12)
abbrev sc_law_own_integer : Scope := defScope s_law_own_integer
abbrev N_law_own_integer : List Str := ["value"]
theorem S_law_own_integer : FnScope N_law_own_integer ["value"] sc_law_own_integer := ⟨rfl, rfl, rfl, by decide +kernel, rfl, by decide +kernel, by decide +kernel⟩
def mx_law_own_integer_0 {α : Type} (a e c : List α) : List α := match a, e, c with
  | [a0], [], [] => [a0]
  | _, _, _ => []
abbrev g_law_own_integer_0 : List D → List D → List D := fun ds es => mx_law_own_integer_0 ds [] es
theorem b_law_own_integer_0 {K : PySem.W.Frag} {f : Addr} {fd : FuncData} (F : FnD K "_law_own_integer" "_law_own_integer" s_law_own_integer [] f fd) : Bnd K fd ["value"] 1 [] g_law_own_integer_0 :=
  bnd0 F 1 [] mx_law_own_integer_0 (fun {α β R a c b d'} ra la rc lc => by
      match a, b, ra, la, c, d', rc, lc with
      | _, _, (.cons a0 .nil), _, _, _, .nil, _ => exact (.cons a0 .nil))
    (fun kV doc pm an cdv ct us ws h1 h2 => by
      match us, h1, ws, h2 with
      | [a0], _, [], _ => rfl)
def t_law_own_integer : TDS :=
    (dRet (dAndV (dIsi "int" (dVar 0)) (dNotV (dIsi "bool" (dVar 0)))))
theorem der_law_own_integer {P : Program} {w : World} {K : PySem.W.Frag} {mg : Str → Option Value} {base : Heap} (T : Facts K mg) :
    Der P w K mg base N_law_own_integer "_law_own_integer" sc_law_own_integer (defBody s_law_own_integer) 0 (t_law_own_integer) := by
  intro f cdv A outer s H E hr hgd
  have nd := S_law_own_integer.nd
  exact (dss_one (ds_ret (de_and (de_isi (T := "int") (by decide) rfl T.z_isinstance rfl T.z_int (by decide +kernel) (de_var 0)) (de_one (de_not (de_isi (T := "bool") (by decide) rfl T.z_isinstance rfl T.z_bool (by decide +kernel) (de_var 0)))))))
/-! ### _law_odd -/
abbrev s_law_odd : Stmt := (top 13)
abbrev sc_law_odd : Scope := defScope s_law_odd
abbrev N_law_odd : List Str := ["vessel"]
theorem S_law_odd : FnScope N_law_odd ["vessel"] sc_law_odd := ⟨rfl, rfl, rfl, by decide +kernel, rfl, by decide +kernel, by decide +kernel⟩
def mx_law_odd_0 {α : Type} (a e c : List α) : List α := match a, e, c with
  | [a0], [], [] => [a0]
  | _, _, _ => []
abbrev g_law_odd_0 : List D → List D → List D := fun ds es => mx_law_odd_0 ds [] es
theorem b_law_odd_0 {K : PySem.W.Frag} {f : Addr} {fd : FuncData} (F : FnD K "_law_odd" "_law_odd" s_law_odd [] f fd) : Bnd K fd ["vessel"] 1 [] g_law_odd_0 :=
  bnd0 F 1 [] mx_law_odd_0 (fun {α β R a c b d'} ra la rc lc => by
      match a, b, ra, la, c, d', rc, lc with
      | _, _, (.cons a0 .nil), _, _, _, .nil, _ => exact (.cons a0 .nil))
    (fun kV doc pm an cdv ct us ws h1 h2 => by
      match us, h1, ws, h2 with
      | [a0], _, [], _ => rfl)
def t_law_odd (sp_law_cupful : SpD) : TDS :=
    (dRet (dCall sp_law_cupful 2 0 g_law_cupful_0 (dCons (dVar 0) (dCons (dLst (dCons (dC (.bl true)) (dCons (dC (.bl false)) (dCons (dC .non) (dCons (dC (.str "1")) (dCons (dLst (dCons (dC (.int 1)) dNil)) (dCons (dTup (dCons (dC (.int 0)) dNil)) (dCons (dC (.str "")) (dCons dDic0 dNil))))))))) dNil)) dNil))
theorem der_law_odd {P : Program} {w : World} {K : PySem.W.Frag} {mg : Str → Option Value} {base : Heap} (T : Facts K mg)
    {f_law_cupful : Addr} {fd_law_cupful : FuncData} {sp_law_cupful : SpD} (F_law_cupful : FnD K "_law_cupful" "_law_cupful" s_law_cupful [] f_law_cupful fd_law_cupful) (m_law_cupful : mg "_law_cupful" = some (.ref f_law_cupful)) (G_law_cupful : FnG P w K mg base 2 f_law_cupful fd_law_cupful ["vessel", "some"] sp_law_cupful) :
    Der P w K mg base N_law_odd "_law_odd" sc_law_odd (defBody s_law_odd) 2 (t_law_odd sp_law_cupful) := by
  intro f cdv A outer s H E hr hgd
  have nd := S_law_odd.nd
  have tk : Takes (dX P w K mg base N_law_odd "_law_odd" sc_law_odd f cdv A outer s H E) (wE E) := takes_of rfl rfl rfl rfl
  exact (dss_one (ds_ret (de_call (G_law_cupful.up_ (by decide)) hr hgd tk rfl m_law_cupful F_law_cupful.kp (b_law_cupful_0 F_law_cupful) (da_cons (de_var 0) (da_cons (de_lst (da_cons de_bl (da_cons de_bl (da_cons de_non (da_cons de_str (da_cons (de_lst (da_cons de_int da_nil)) (da_cons (de_tup (da_cons de_int da_nil)) (da_cons de_str (da_cons de_dic0 da_nil))))))))) da_nil)))))
/-! ### _law_bent -/
abbrev s_law_bent : Stmt := (top 14)
abbrev sc_law_bent : Scope := defScope s_law_bent
abbrev N_law_bent : List Str := ["vessel", "row", "odd", "at"]
theorem S_law_bent : FnScope N_law_bent ["vessel", "row", "odd"] sc_law_bent := ⟨rfl, rfl, rfl, by decide +kernel, rfl, by decide +kernel, by decide +kernel⟩
def mx_law_bent_0 {α : Type} (a e c : List α) : List α := match a, e, c with
  | [a0, a1, a2], [], [] => [a0, a1, a2]
  | _, _, _ => []
abbrev g_law_bent_0 : List D → List D → List D := fun ds es => mx_law_bent_0 ds [] es
theorem b_law_bent_0 {K : PySem.W.Frag} {f : Addr} {fd : FuncData} (F : FnD K "_law_bent" "_law_bent" s_law_bent [] f fd) : Bnd K fd ["vessel", "row", "odd"] 3 [] g_law_bent_0 :=
  bnd0 F 3 [] mx_law_bent_0 (fun {α β R a c b d'} ra la rc lc => by
      match a, b, ra, la, c, d', rc, lc with
      | _, _, (.cons a0 (.cons a1 (.cons a2 .nil))), _, _, _, .nil, _ => exact (.cons a0 (.cons a1 (.cons a2 .nil))))
    (fun kV doc pm an cdv ct us ws h1 h2 => by
      match us, h1, ws, h2 with
      | [a0, a1, a2], _, [], _ => rfl)
def t_law_bent (sp_law_draught : SpD) : TDS :=
    (dSeq (dAsg (dCall sp_law_draught 2 0 g_law_draught_0 (dCons (dVar 0) (dCons (dBin fAdd (dCB fLen (dCons (dVar 1) dNil)) (dC (.int 1))) dNil)) dNil) (gN 3))
    (dRet (dBin fAdd (dBin fAdd (dSl (dVar 1) dNoP (dPart (dVar 3))) (dLst (dCons (dVar 2) dNil))) (dSl (dVar 1) (dPart (dBin fAdd (dVar 3) (dCall sp_law_draught 2 0 g_law_draught_0 (dCons (dVar 0) (dCons (dC (.int 2)) dNil)) dNil))) dNoP))))
theorem der_law_bent {P : Program} {w : World} {K : PySem.W.Frag} {mg : Str → Option Value} {base : Heap} (T : Facts K mg)
    {f_law_draught : Addr} {fd_law_draught : FuncData} {sp_law_draught : SpD} (F_law_draught : FnD K "_law_draught" "_law_draught" s_law_draught [] f_law_draught fd_law_draught) (m_law_draught : mg "_law_draught" = some (.ref f_law_draught)) (G_law_draught : FnG P w K mg base 1 f_law_draught fd_law_draught ["vessel", "many"] sp_law_draught) :
    Der P w K mg base N_law_bent "_law_bent" sc_law_bent (defBody s_law_bent) 1 (t_law_bent sp_law_draught) := by
  intro f cdv A outer s H E hr hgd
  have nd := S_law_bent.nd
  have tk : Takes (dX P w K mg base N_law_bent "_law_bent" sc_law_bent f cdv A outer s H E) (wE E) := takes_of rfl rfl rfl rfl
  exact (dss_cons (ds_set 3 nd (de_call (G_law_draught.up_ (by decide)) hr hgd tk rfl m_law_draught F_law_draught.kp (b_law_draught_0 F_law_draught) (da_cons (de_var 0) (da_cons (de_op op_add4 o2_add (de_cb call_len3 cd_len rfl T.z_len (by decide +kernel) (da_cons (de_var 1) da_nil)) de_int) da_nil))))
      (dss_one (ds_ret (de_op op_add4 o2_add (de_op op_add4 o2_add (de_sl (de_var 1) do_none (do_some (de_var 3))) (de_lst (da_cons (de_var 2) da_nil))) (de_sl (de_var 1) (do_some (de_op op_add4 o2_add (de_var 3) (de_call (G_law_draught.up_ (by decide)) hr hgd tk rfl m_law_draught F_law_draught.kp (b_law_draught_0 F_law_draught) (da_cons (de_var 0) (da_cons de_int da_nil))))) do_none)))))
/-! ### _law_row_right -/
abbrev s_law_row_right : Stmt := (top 15)
abbrev sc_law_row_right : Scope := defScope s_law_row_right
abbrev N_law_row_right : List Str := ["vessel", "length", "row", "told", "spoilt", "turn"]
theorem S_law_row_right : FnScope N_law_row_right ["vessel"] sc_law_row_right := ⟨rfl, rfl, rfl, by decide +kernel, rfl, by decide +kernel, by decide +kernel⟩
def mx_law_row_right_0 {α : Type} (a e c : List α) : List α := match a, e, c with
  | [a0], [], [] => [a0]
  | _, _, _ => []
abbrev g_law_row_right_0 : List D → List D → List D := fun ds es => mx_law_row_right_0 ds [] es
theorem b_law_row_right_0 {K : PySem.W.Frag} {f : Addr} {fd : FuncData} (F : FnD K "_law_row_right" "_law_row_right" s_law_row_right [] f fd) : Bnd K fd ["vessel"] 1 [] g_law_row_right_0 :=
  bnd0 F 1 [] mx_law_row_right_0 (fun {α β R a c b d'} ra la rc lc => by
      match a, b, ra, la, c, d', rc, lc with
      | _, _, (.cons a0 .nil), _, _, _, .nil, _ => exact (.cons a0 .nil))
    (fun kV doc pm an cdv ct us ws h1 h2 => by
      match us, h1, ws, h2 with
      | [a0], _, [], _ => rfl)
def t_law_row_right (sp_is_row : SpD) (sp_law_bent : SpD) (sp_law_odd : SpD) (sp_law_cupful : SpD) (sp_law_draught : SpD) : TDS :=
    (dSeq (dAsg (dCall sp_law_draught 2 0 g_law_draught_0 (dCons (dVar 0) (dCons (dC (.int 6)) dNil)) dNil) (gN 1))
    (dSeq (dAsg (dLc (dIRng1 (dCons (dVar 1) dNil)) (gN 5) dYes (dCall sp_law_cupful 2 0 g_law_cupful_0 (dCons (dVar 0) (dCons (dLst (dCons (dC (.int 0)) (dCons (dUn fNeg (dC (.int 1))) (dCons (dC (.int 7)) (dCons (dBin fPow (dC (.int 10)) (dC (.int 50))) (dCons (dUn fNeg (dBin fPow (dC (.int 10)) (dC (.int 21)))) (dCons (dCall sp_law_draught 2 0 g_law_draught_0 (dCons (dVar 0) (dCons (dC (.int 99)) dNil)) dNil) dNil))))))) dNil)) dNil) [5]) (gN 2))
    (dSeq (dAsg (dLst (dCons (dCall sp_is_row 2 0 g_is_row_0 (dCons (dVar 2) (dCons (dVar 1) dNil)) dNil) (dCons (dCall sp_is_row 0 2 g_is_row_1 dNil (dCons (dCB fTuple (dCons (dVar 2) dNil)) (dCons (dVar 1) dNil))) (dCons (dCall sp_is_row 2 0 g_is_row_0 (dCons (dVar 2) (dCons (dBin fAdd (dVar 1) (dC (.int 1))) dNil)) dNil) (dCons (dCall sp_is_row 2 0 g_is_row_0 (dCons (dBin fAdd (dVar 2) (dLst (dCons (dC (.int 4)) dNil))) (dCons (dVar 1) dNil)) dNil) dNil))))) (gN 3))
    (dSeq (dAsg (dCall sp_law_bent 3 0 g_law_bent_0 (dCons (dVar 0) (dCons (dVar 2) (dCons (dCall sp_law_odd 1 0 g_law_odd_0 (dCons (dVar 0) dNil) dNil) dNil))) dNil) (gN 4))
    (dSeq (dAsg (dBin fAdd (dVar 3) (dLst (dCons (dCall sp_is_row 2 0 g_is_row_0 (dCons (dVar 4) (dCons (dCB fLen (dCons (dVar 4) dNil)) dNil)) dNil) (dCons (dCall sp_is_row 2 0 g_is_row_0 (dCons (dCB fTuple (dCons (dVar 4) dNil)) (dCons (dCB fLen (dCons (dVar 4) dNil)) dNil)) dNil) (dCons (dCall sp_is_row 2 0 g_is_row_0 (dCons (dBin fMul (dC (.str "0")) (dVar 1)) (dCons (dVar 1) dNil)) dNil) (dCons (dCall sp_is_row 2 0 g_is_row_0 (dCons dDic0 (dCons (dC (.int 0)) dNil)) dNil) (dCons (dCall sp_is_row 2 0 g_is_row_0 (dCons (dC .non) (dCons (dC (.int 0)) dNil)) dNil) dNil))))))) (gN 3))
    (dRet (dBin fEq (dCB fRepr (dCons (dVar 3) dNil)) (dCB fRepr (dCons (dLst (dCons (dC (.bl true)) (dCons (dC (.bl true)) (dCons (dC (.bl false)) (dCons (dC (.bl false)) (dCons (dC (.bl false)) (dCons (dC (.bl false)) (dCons (dC (.bl false)) (dCons (dC (.bl false)) (dCons (dC (.bl false)) dNil)))))))))) dNil)))))))))
theorem der_law_row_right {P : Program} {w : World} {K : PySem.W.Frag} {mg : Str → Option Value} {base : Heap} (T : Facts K mg)
    {f_is_row : Addr} {fd_is_row : FuncData} {sp_is_row : SpD} (F_is_row : FnD K "is_row" "is_row" s_is_row [] f_is_row fd_is_row) (m_is_row : mg "is_row" = some (.ref f_is_row)) (G_is_row : FnG P w K mg base 2 f_is_row fd_is_row ["value", "length"] sp_is_row)
    {f_law_bent : Addr} {fd_law_bent : FuncData} {sp_law_bent : SpD} (F_law_bent : FnD K "_law_bent" "_law_bent" s_law_bent [] f_law_bent fd_law_bent) (m_law_bent : mg "_law_bent" = some (.ref f_law_bent)) (G_law_bent : FnG P w K mg base 2 f_law_bent fd_law_bent ["vessel", "row", "odd"] sp_law_bent)
    {f_law_odd : Addr} {fd_law_odd : FuncData} {sp_law_odd : SpD} (F_law_odd : FnD K "_law_odd" "_law_odd" s_law_odd [] f_law_odd fd_law_odd) (m_law_odd : mg "_law_odd" = some (.ref f_law_odd)) (G_law_odd : FnG P w K mg base 3 f_law_odd fd_law_odd ["vessel"] sp_law_odd)
    {f_law_cupful : Addr} {fd_law_cupful : FuncData} {sp_law_cupful : SpD} (F_law_cupful : FnD K "_law_cupful" "_law_cupful" s_law_cupful [] f_law_cupful fd_law_cupful) (m_law_cupful : mg "_law_cupful" = some (.ref f_law_cupful)) (G_law_cupful : FnG P w K mg base 2 f_law_cupful fd_law_cupful ["vessel", "some"] sp_law_cupful)
    {f_law_draught : Addr} {fd_law_draught : FuncData} {sp_law_draught : SpD} (F_law_draught : FnD K "_law_draught" "_law_draught" s_law_draught [] f_law_draught fd_law_draught) (m_law_draught : mg "_law_draught" = some (.ref f_law_draught)) (G_law_draught : FnG P w K mg base 1 f_law_draught fd_law_draught ["vessel", "many"] sp_law_draught) :
    Der P w K mg base N_law_row_right "_law_row_right" sc_law_row_right (defBody s_law_row_right) 3 (t_law_row_right sp_is_row sp_law_bent sp_law_odd sp_law_cupful sp_law_draught) := by
  intro f cdv A outer s H E hr hgd
  have nd := S_law_row_right.nd
  have tk : Takes (dX P w K mg base N_law_row_right "_law_row_right" sc_law_row_right f cdv A outer s H E) (wE E) := takes_of rfl rfl rfl rfl
  have po : PassesOwn (model P w) (dX P w K mg base N_law_row_right "_law_row_right" sc_law_row_right f cdv A outer s H E).A (dX P w K mg base N_law_row_right "_law_row_right" sc_law_row_right f cdv A outer s H E).env (dX P w K mg base N_law_row_right "_law_row_right" sc_law_row_right f cdv A outer s H E).xe := passes_of rfl
  exact (dss_cons (ds_set 1 nd (de_call (G_law_draught.up_ (by decide)) hr hgd tk rfl m_law_draught F_law_draught.kp (b_law_draught_0 F_law_draught) (da_cons (de_var 0) (da_cons de_int da_nil))))
      (dss_cons (ds_setLc (i := 2) (own := [("turn", 5)]) rfl nd (di_rng1 rfl T.z_range (da_cons (de_var 1) da_nil)) (blkOk_by (own := [("turn", 5)]) (N := N_law_row_right) (sc := sc_law_row_right) (by decide +kernel)) (fun _ _ _ _ _ => (gp_name (vs := [5]) nd (by decide) rfl (Or.inl rfl))) (fun _ _ _ _ _ => dts_nil) (fun _ _ _ _ _ => (de_call (G_law_cupful.up_ (by decide)) hr hgd takes0 rfl m_law_cupful F_law_cupful.kp (b_law_cupful_0 F_law_cupful) (da_cons (de_var 0) (da_cons (de_lst (da_cons de_int (da_cons (de_un un_neg o1_neg de_int) (da_cons de_int (da_cons (de_op op_pow o2_pow de_int de_int) (da_cons (de_un un_neg o1_neg (de_op op_pow o2_pow de_int de_int)) (da_cons (de_call (G_law_draught.up_ (by decide)) hr hgd takes0 rfl m_law_draught F_law_draught.kp (b_law_draught_0 F_law_draught) (da_cons (de_var 0) (da_cons de_int da_nil))) da_nil))))))) da_nil)))))
      (dss_cons (ds_set 3 nd (de_lst (da_cons (de_call (G_is_row.up_ (by decide)) hr hgd tk rfl m_is_row F_is_row.kp (b_is_row_0 F_is_row) (da_cons (de_var 2) (da_cons (de_var 1) da_nil))) (da_cons (de_callN (ks := ["value", "length"]) (G_is_row.up_ (by decide)) hr hgd tk rfl m_is_row F_is_row.kp (b_is_row_1 F_is_row) (dk_cons (de_ct call_tuple_of cd_tuple rfl T.z_tuple (by decide +kernel) (da_cons (de_var 2) da_nil)) (dk_cons (de_var 1) dk_nil))) (da_cons (de_call (G_is_row.up_ (by decide)) hr hgd tk rfl m_is_row F_is_row.kp (b_is_row_0 F_is_row) (da_cons (de_var 2) (da_cons (de_op op_add4 o2_add (de_var 1) de_int) da_nil))) (da_cons (de_call (G_is_row.up_ (by decide)) hr hgd tk rfl m_is_row F_is_row.kp (b_is_row_0 F_is_row) (da_cons (de_op op_add4 o2_add (de_var 2) (de_lst (da_cons de_int da_nil))) (da_cons (de_var 1) da_nil))) da_nil))))))
      (dss_cons (ds_set 4 nd (de_call (G_law_bent.up_ (by decide)) hr hgd tk rfl m_law_bent F_law_bent.kp (b_law_bent_0 F_law_bent) (da_cons (de_var 0) (da_cons (de_var 2) (da_cons (de_call (G_law_odd.up_ (by decide)) hr hgd tk rfl m_law_odd F_law_odd.kp (b_law_odd_0 F_law_odd) (da_cons (de_var 0) da_nil)) da_nil)))))
      (dss_cons (ds_set 3 nd (de_op op_add4 o2_add (de_var 3) (de_lst (da_cons (de_call (G_is_row.up_ (by decide)) hr hgd tk rfl m_is_row F_is_row.kp (b_is_row_0 F_is_row) (da_cons (de_var 4) (da_cons (de_cb call_len3 cd_len rfl T.z_len (by decide +kernel) (da_cons (de_var 4) da_nil)) da_nil))) (da_cons (de_call (G_is_row.up_ (by decide)) hr hgd tk rfl m_is_row F_is_row.kp (b_is_row_0 F_is_row) (da_cons (de_ct call_tuple_of cd_tuple rfl T.z_tuple (by decide +kernel) (da_cons (de_var 4) da_nil)) (da_cons (de_cb call_len3 cd_len rfl T.z_len (by decide +kernel) (da_cons (de_var 4) da_nil)) da_nil))) (da_cons (de_call (G_is_row.up_ (by decide)) hr hgd tk rfl m_is_row F_is_row.kp (b_is_row_0 F_is_row) (da_cons (de_op op_mul3 o2_mul de_str (de_var 1)) (da_cons (de_var 1) da_nil))) (da_cons (de_call (G_is_row.up_ (by decide)) hr hgd tk rfl m_is_row F_is_row.kp (b_is_row_0 F_is_row) (da_cons de_dic0 (da_cons de_int da_nil))) (da_cons (de_call (G_is_row.up_ (by decide)) hr hgd tk rfl m_is_row F_is_row.kp (b_is_row_0 F_is_row) (da_cons de_non (da_cons de_int da_nil))) da_nil))))))))
      (dss_one (ds_ret (de_cmp (op_eq2 hr.units) o2_eq (de_cb (call_repr hgd hr) cd_repr rfl T.z_repr (by decide +kernel) (da_cons (de_var 3) da_nil)) (de_cb (call_repr hgd hr) cd_repr rfl T.z_repr (by decide +kernel) (da_cons (de_lst (da_cons de_bl (da_cons de_bl (da_cons de_bl (da_cons de_bl (da_cons de_bl (da_cons de_bl (da_cons de_bl (da_cons de_bl (da_cons de_bl da_nil)))))))))) da_nil))))))))))
/-! ### _law_text_right -/
abbrev s_law_text_right : Stmt := (top 16)
abbrev sc_law_text_right : Scope := defScope s_law_text_right
abbrev N_law_text_right : List Str := ["vessel", "letters", "most", "size", "text", "told", "spoilt", "long", "turn"]
theorem S_law_text_right : FnScope N_law_text_right ["vessel"] sc_law_text_right := ⟨rfl, rfl, rfl, by decide +kernel, rfl, by decide +kernel, by decide +kernel⟩
def mx_law_text_right_0 {α : Type} (a e c : List α) : List α := match a, e, c with
  | [a0], [], [] => [a0]
  | _, _, _ => []
abbrev g_law_text_right_0 : List D → List D → List D := fun ds es => mx_law_text_right_0 ds [] es
theorem b_law_text_right_0 {K : PySem.W.Frag} {f : Addr} {fd : FuncData} (F : FnD K "_law_text_right" "_law_text_right" s_law_text_right [] f fd) : Bnd K fd ["vessel"] 1 [] g_law_text_right_0 :=
  bnd0 F 1 [] mx_law_text_right_0 (fun {α β R a c b d'} ra la rc lc => by
      match a, b, ra, la, c, d', rc, lc with
      | _, _, (.cons a0 .nil), _, _, _, .nil, _ => exact (.cons a0 .nil))
    (fun kV doc pm an cdv ct us ws h1 h2 => by
      match us, h1, ws, h2 with
      | [a0], _, [], _ => rfl)
def t_law_text_right (sp_is_text : SpD) (sp_law_draught : SpD) (sp_law_cupful : SpD) (sp_law_bent : SpD) (sp_law_odd : SpD) : TDS :=
    (dSeq (dAsg (dTup (dCons (dCall sp_law_cupful 2 0 g_law_cupful_0 (dCons (dVar 0) (dCons (dLst (dCons (dC (.int 2)) (dCons (dC (.int 3)) (dCons (dC (.int 4)) (dCons (dC (.int 1)) (dCons (dC (.int 9)) dNil)))))) dNil)) dNil) (dCons (dCall sp_law_cupful 2 0 g_law_cupful_0 (dCons (dVar 0) (dCons (dLst (dCons (dC (.int 3)) (dCons (dC (.int 0)) (dCons (dC (.int 60)) (dCons (dC (.int 12)) dNil))))) dNil)) dNil) dNil))) (gTu (gCn (gN 1) (gCn (gN 2) gNl))))
    (dSeq (dAsg (dCall sp_law_cupful 2 0 g_law_cupful_0 (dCons (dVar 0) (dCons (dLst (dCons (dVar 2) (dCons (dBin fAdd (dVar 2) (dC (.int 1))) (dCons (dCB fMax2 (dCons (dC (.int 0)) (dCons (dBin fSub (dVar 2) (dC (.int 1))) dNil))) (dCons (dC (.int 0)) dNil))))) dNil)) dNil) (gN 3))
    (dSeq (dAsg (dLc (dIRng1 (dCons (dVar 3) dNil)) (gN 8) dYes (dCall sp_law_draught 2 0 g_law_draught_0 (dCons (dVar 0) (dCons (dVar 1) dNil)) dNil) [8]) (gN 4))
    (dSeq (dAsg (dLst (dCons (dCall sp_is_text 3 0 g_is_text_1 (dCons (dVar 4) (dCons (dVar 1) (dCons (dVar 2) dNil))) dNil) (dCons (dCall sp_is_text 0 3 g_is_text_2 dNil (dCons (dVar 2) (dCons (dVar 1) (dCons (dCB fTuple (dCons (dVar 4) dNil)) dNil)))) (dCons (dCall sp_is_text 2 0 g_is_text_0 (dCons (dVar 4) (dCons (dVar 1) dNil)) dNil) dNil)))) (gN 5))
    (dSeq (dIfS (dTst (dBin fNe (dCB fRepr (dCons (dVar 5) dNil)) (dCB fRepr (dCons (dLst (dCons (dBin fLe (dVar 3) (dVar 2)) (dCons (dBin fLe (dVar 3) (dVar 2)) (dCons (dC (.bl true)) dNil)))) dNil))))
    (dRet (dC (.bl false)))
    dNext)
    (dSeq (dAsg (dCall sp_law_bent 3 0 g_law_bent_0 (dCons (dVar 0) (dCons (dVar 4) (dCons (dCall sp_law_cupful 2 0 g_law_cupful_0 (dCons (dVar 0) (dCons (dLst (dCons (dVar 1) (dCons (dUn fNeg (dC (.int 1))) (dCons (dBin fPow (dC (.int 10)) (dC (.int 20))) (dCons (dCall sp_law_odd 1 0 g_law_odd_0 (dCons (dVar 0) dNil) dNil) dNil))))) dNil)) dNil) dNil))) dNil) (gN 6))
    (dSeq (dIfS (dTst (dBin fNe (dCB fRepr (dCons (dLst (dCons (dCall sp_is_text 3 0 g_is_text_1 (dCons (dVar 6) (dCons (dVar 1) (dCons (dC (.int 100)) dNil))) dNil) (dCons (dCall sp_is_text 2 0 g_is_text_0 (dCons (dCB fTuple (dCons (dVar 6) dNil)) (dCons (dVar 1) dNil)) dNil) dNil))) dNil)) (dCB fRepr (dCons (dLst (dCons (dC (.bl false)) (dCons (dC (.bl false)) dNil))) dNil))))
    (dRet (dC (.bl false)))
    dNext)
    (dSeq (dAsg (dSl (dBin fMul (dLst (dCons (dCall sp_law_draught 2 0 g_law_draught_0 (dCons (dVar 0) (dCons (dVar 1) dNil)) dNil) dNil)) (dC (.int 1001))) dNoP (dPart (dCall sp_law_cupful 2 0 g_law_cupful_0 (dCons (dVar 0) (dCons (dLst (dCons (dC (.int 1001)) (dCons (dC (.int 1000)) (dCons (dC (.int 999)) dNil)))) dNil)) dNil))) (gN 7))
    (dSeq (dAsg (dLst (dCons (dCall sp_is_text 2 0 g_is_text_0 (dCons (dVar 7) (dCons (dVar 1) dNil)) dNil) (dCons (dCall sp_is_text 3 0 g_is_text_1 (dCons (dCB fTuple (dCons (dVar 7) dNil)) (dCons (dVar 1) (dCons (dC (.int 1001)) dNil))) dNil) (dCons (dCall sp_is_text 3 0 g_is_text_1 (dCons (dVar 7) (dCons (dVar 1) (dCons (dC (.int 998)) dNil))) dNil) (dCons (dCall sp_is_text 2 0 g_is_text_0 (dCons (dC (.str "0")) (dCons (dVar 1) dNil)) dNil) (dCons (dCall sp_is_text 2 0 g_is_text_0 (dCons (dC .non) (dCons (dVar 1) dNil)) dNil) dNil)))))) (gN 5))
    (dRet (dBin fEq (dCB fRepr (dCons (dVar 5) dNil)) (dCB fRepr (dCons (dLst (dCons (dBin fLt (dCB fLen (dCons (dVar 7) dNil)) (dC (.int 1001))) (dCons (dC (.bl true)) (dCons (dC (.bl false)) (dCons (dC (.bl false)) (dCons (dC (.bl false)) dNil)))))) dNil)))))))))))))
theorem der_law_text_right {P : Program} {w : World} {K : PySem.W.Frag} {mg : Str → Option Value} {base : Heap} (T : Facts K mg)
    {f_is_text : Addr} {fd_is_text : FuncData} {sp_is_text : SpD} (F_is_text : FnD K "is_text" "is_text" s_is_text [.int 1000] f_is_text fd_is_text) (m_is_text : mg "is_text" = some (.ref f_is_text)) (G_is_text : FnG P w K mg base 3 f_is_text fd_is_text ["value", "letters", "most"] sp_is_text)
    {f_law_draught : Addr} {fd_law_draught : FuncData} {sp_law_draught : SpD} (F_law_draught : FnD K "_law_draught" "_law_draught" s_law_draught [] f_law_draught fd_law_draught) (m_law_draught : mg "_law_draught" = some (.ref f_law_draught)) (G_law_draught : FnG P w K mg base 1 f_law_draught fd_law_draught ["vessel", "many"] sp_law_draught)
    {f_law_cupful : Addr} {fd_law_cupful : FuncData} {sp_law_cupful : SpD} (F_law_cupful : FnD K "_law_cupful" "_law_cupful" s_law_cupful [] f_law_cupful fd_law_cupful) (m_law_cupful : mg "_law_cupful" = some (.ref f_law_cupful)) (G_law_cupful : FnG P w K mg base 2 f_law_cupful fd_law_cupful ["vessel", "some"] sp_law_cupful)
    {f_law_bent : Addr} {fd_law_bent : FuncData} {sp_law_bent : SpD} (F_law_bent : FnD K "_law_bent" "_law_bent" s_law_bent [] f_law_bent fd_law_bent) (m_law_bent : mg "_law_bent" = some (.ref f_law_bent)) (G_law_bent : FnG P w K mg base 2 f_law_bent fd_law_bent ["vessel", "row", "odd"] sp_law_bent)
    {f_law_odd : Addr} {fd_law_odd : FuncData} {sp_law_odd : SpD} (F_law_odd : FnD K "_law_odd" "_law_odd" s_law_odd [] f_law_odd fd_law_odd) (m_law_odd : mg "_law_odd" = some (.ref f_law_odd)) (G_law_odd : FnG P w K mg base 3 f_law_odd fd_law_odd ["vessel"] sp_law_odd) :
    Der P w K mg base N_law_text_right "_law_text_right" sc_law_text_right (defBody s_law_text_right) 3 (t_law_text_right sp_is_text sp_law_draught sp_law_cupful sp_law_bent sp_law_odd) := by
  intro f cdv A outer s H E hr hgd
  have nd := S_law_text_right.nd
  have tk : Takes (dX P w K mg base N_law_text_right "_law_text_right" sc_law_text_right f cdv A outer s H E) (wE E) := takes_of rfl rfl rfl rfl
  have po : PassesOwn (model P w) (dX P w K mg base N_law_text_right "_law_text_right" sc_law_text_right f cdv A outer s H E).A (dX P w K mg base N_law_text_right "_law_text_right" sc_law_text_right f cdv A outer s H E).env (dX P w K mg base N_law_text_right "_law_text_right" sc_law_text_right f cdv A outer s H E).xe := passes_of rfl
  exact (dss_cons (ds_asg (de_tup (da_cons (de_call (G_law_cupful.up_ (by decide)) hr hgd tk rfl m_law_cupful F_law_cupful.kp (b_law_cupful_0 F_law_cupful) (da_cons (de_var 0) (da_cons (de_lst (da_cons de_int (da_cons de_int (da_cons de_int (da_cons de_int (da_cons de_int da_nil)))))) da_nil))) (da_cons (de_call (G_law_cupful.up_ (by decide)) hr hgd tk rfl m_law_cupful F_law_cupful.kp (b_law_cupful_0 F_law_cupful) (da_cons (de_var 0) (da_cons (de_lst (da_cons de_int (da_cons de_int (da_cons de_int (da_cons de_int da_nil))))) da_nil))) da_nil))) (gp_tup rfl (gps_cons (gp_name (vs := [1, 2]) nd (by decide) rfl (Or.inr rfl)) (gps_cons (gp_name (vs := [1, 2]) nd (by decide) rfl (Or.inl rfl)) gps_nil)) (gcn_len (gcn_len gnl_len gn_go) gn_go)))
      (dss_cons (ds_set 3 nd (de_call (G_law_cupful.up_ (by decide)) hr hgd tk rfl m_law_cupful F_law_cupful.kp (b_law_cupful_0 F_law_cupful) (da_cons (de_var 0) (da_cons (de_lst (da_cons (de_var 2) (da_cons (de_op op_add4 o2_add (de_var 2) de_int) (da_cons (de_cb (call_max2 rfl) cd_max2 rfl T.z_max (by decide +kernel) (da_cons de_int (da_cons (de_op op_sub o2_sub (de_var 2) de_int) da_nil))) (da_cons de_int da_nil))))) da_nil))))
      (dss_cons (ds_setLc (i := 4) (own := [("turn", 8)]) rfl nd (di_rng1 rfl T.z_range (da_cons (de_var 3) da_nil)) (blkOk_by (own := [("turn", 8)]) (N := N_law_text_right) (sc := sc_law_text_right) (by decide +kernel)) (fun _ _ _ _ _ => (gp_name (vs := [8]) nd (by decide) rfl (Or.inl rfl))) (fun _ _ _ _ _ => dts_nil) (fun _ _ _ _ _ => (de_call (G_law_draught.up_ (by decide)) hr hgd takes0 rfl m_law_draught F_law_draught.kp (b_law_draught_0 F_law_draught) (da_cons (de_var 0) (da_cons (de_var 1) da_nil)))))
      (dss_cons (ds_set 5 nd (de_lst (da_cons (de_call (G_is_text.up_ (by decide)) hr hgd tk rfl m_is_text F_is_text.kp (b_is_text_1 F_is_text) (da_cons (de_var 4) (da_cons (de_var 1) (da_cons (de_var 2) da_nil)))) (da_cons (de_callN (ks := ["most", "letters", "value"]) (G_is_text.up_ (by decide)) hr hgd tk rfl m_is_text F_is_text.kp (b_is_text_2 F_is_text) (dk_cons (de_var 2) (dk_cons (de_var 1) (dk_cons (de_ct call_tuple_of cd_tuple rfl T.z_tuple (by decide +kernel) (da_cons (de_var 4) da_nil)) dk_nil)))) (da_cons (de_call (G_is_text.up_ (by decide)) hr hgd tk rfl m_is_text F_is_text.kp (b_is_text_0 F_is_text) (da_cons (de_var 4) (da_cons (de_var 1) da_nil))) da_nil)))))
      (dss_cons (ds_if (dt_cmp (op_ne2 hr.units) o2_ne (de_cb (call_repr hgd hr) cd_repr rfl T.z_repr (by decide +kernel) (da_cons (de_var 5) da_nil)) (de_cb (call_repr hgd hr) cd_repr rfl T.z_repr (by decide +kernel) (da_cons (de_lst (da_cons (de_cmp op_le o2_le (de_var 3) (de_var 2)) (da_cons (de_cmp op_le o2_le (de_var 3) (de_var 2)) (da_cons de_bl da_nil)))) da_nil)))
      (dss_one (ds_ret de_bl))
      dss_nil)
      (dss_cons (ds_set 6 nd (de_call (G_law_bent.up_ (by decide)) hr hgd tk rfl m_law_bent F_law_bent.kp (b_law_bent_0 F_law_bent) (da_cons (de_var 0) (da_cons (de_var 4) (da_cons (de_call (G_law_cupful.up_ (by decide)) hr hgd tk rfl m_law_cupful F_law_cupful.kp (b_law_cupful_0 F_law_cupful) (da_cons (de_var 0) (da_cons (de_lst (da_cons (de_var 1) (da_cons (de_un un_neg o1_neg de_int) (da_cons (de_op op_pow o2_pow de_int de_int) (da_cons (de_call (G_law_odd.up_ (by decide)) hr hgd tk rfl m_law_odd F_law_odd.kp (b_law_odd_0 F_law_odd) (da_cons (de_var 0) da_nil)) da_nil))))) da_nil))) da_nil)))))
      (dss_cons (ds_if (dt_cmp (op_ne2 hr.units) o2_ne (de_cb (call_repr hgd hr) cd_repr rfl T.z_repr (by decide +kernel) (da_cons (de_lst (da_cons (de_call (G_is_text.up_ (by decide)) hr hgd tk rfl m_is_text F_is_text.kp (b_is_text_1 F_is_text) (da_cons (de_var 6) (da_cons (de_var 1) (da_cons de_int da_nil)))) (da_cons (de_call (G_is_text.up_ (by decide)) hr hgd tk rfl m_is_text F_is_text.kp (b_is_text_0 F_is_text) (da_cons (de_ct call_tuple_of cd_tuple rfl T.z_tuple (by decide +kernel) (da_cons (de_var 6) da_nil)) (da_cons (de_var 1) da_nil))) da_nil))) da_nil)) (de_cb (call_repr hgd hr) cd_repr rfl T.z_repr (by decide +kernel) (da_cons (de_lst (da_cons de_bl (da_cons de_bl da_nil))) da_nil)))
      (dss_one (ds_ret de_bl))
      dss_nil)
      (dss_cons (ds_set 7 nd (de_sl (de_op op_mul3 o2_mul (de_lst (da_cons (de_call (G_law_draught.up_ (by decide)) hr hgd tk rfl m_law_draught F_law_draught.kp (b_law_draught_0 F_law_draught) (da_cons (de_var 0) (da_cons (de_var 1) da_nil))) da_nil)) de_int) do_none (do_some (de_call (G_law_cupful.up_ (by decide)) hr hgd tk rfl m_law_cupful F_law_cupful.kp (b_law_cupful_0 F_law_cupful) (da_cons (de_var 0) (da_cons (de_lst (da_cons de_int (da_cons de_int (da_cons de_int da_nil)))) da_nil))))))
      (dss_cons (ds_set 5 nd (de_lst (da_cons (de_call (G_is_text.up_ (by decide)) hr hgd tk rfl m_is_text F_is_text.kp (b_is_text_0 F_is_text) (da_cons (de_var 7) (da_cons (de_var 1) da_nil))) (da_cons (de_call (G_is_text.up_ (by decide)) hr hgd tk rfl m_is_text F_is_text.kp (b_is_text_1 F_is_text) (da_cons (de_ct call_tuple_of cd_tuple rfl T.z_tuple (by decide +kernel) (da_cons (de_var 7) da_nil)) (da_cons (de_var 1) (da_cons de_int da_nil)))) (da_cons (de_call (G_is_text.up_ (by decide)) hr hgd tk rfl m_is_text F_is_text.kp (b_is_text_1 F_is_text) (da_cons (de_var 7) (da_cons (de_var 1) (da_cons de_int da_nil)))) (da_cons (de_call (G_is_text.up_ (by decide)) hr hgd tk rfl m_is_text F_is_text.kp (b_is_text_0 F_is_text) (da_cons de_str (da_cons (de_var 1) da_nil))) (da_cons (de_call (G_is_text.up_ (by decide)) hr hgd tk rfl m_is_text F_is_text.kp (b_is_text_0 F_is_text) (da_cons de_non (da_cons (de_var 1) da_nil))) da_nil)))))))
      (dss_one (ds_ret (de_cmp (op_eq2 hr.units) o2_eq (de_cb (call_repr hgd hr) cd_repr rfl T.z_repr (by decide +kernel) (da_cons (de_var 5) da_nil)) (de_cb (call_repr hgd hr) cd_repr rfl T.z_repr (by decide +kernel) (da_cons (de_lst (da_cons (de_cmp op_lt o2_lt (de_cb call_len3 cd_len rfl T.z_len (by decide +kernel) (da_cons (de_var 7) da_nil)) de_int) (da_cons de_bl (da_cons de_bl (da_cons de_bl (da_cons de_bl da_nil)))))) da_nil))))))))))))))
/-! ### law -/
abbrev s_law : Stmt := (top 17)
abbrev sc_law : Scope := defScope s_law
abbrev N_law : List Str := ["script", "vessel", "turn", "value", "low", "high", "number", "least", "most", "due"]
theorem S_law : FnScope N_law ["script"] sc_law := ⟨rfl, rfl, rfl, by decide +kernel, rfl, by decide +kernel, by decide +kernel⟩
def t_law (sp_law_row_right : SpD) (sp_law_text_right : SpD) (sp_is_list : SpD) (sp_is_integer : SpD) (sp_law_own_integer : SpD) (sp_is_within : SpD) (sp_law_cupful : SpD) (sp_law_draught : SpD) (sp_law_value : SpD) (sp_law_vessel : SpD) : TDS :=
    (dSeq (dAsg (dCall sp_law_vessel 1 0 g_law_vessel_0 (dCons (dVar 0) dNil) dNil) (gN 1))
    (dSeq (dFor (dIRng1 (dCons (dC (.int 4)) dNil)) (gN 2)
    (dSeq (dAsg (dCall sp_law_value 1 0 g_law_value_0 (dCons (dVar 1) dNil) dNil) (gN 3))
    (dSeq (dPar 4 5 (dCons (dBin fSub (dCall sp_law_draught 2 0 g_law_draught_0 (dCons (dVar 1) (dCons (dC (.int 9)) dNil)) dNil) (dC (.int 4))) (dCons (dBin fSub (dCall sp_law_draught 2 0 g_law_draught_0 (dCons (dVar 1) (dCons (dC (.int 9)) dNil)) dNil) (dC (.int 4))) dNil)))
    (dSeq (dAsg (dCall sp_law_cupful 2 0 g_law_cupful_0 (dCons (dVar 1) (dCons (dLst (dCons (dVar 3) (dCons (dVar 4) (dCons (dVar 5) (dCons (dBin fSub (dVar 4) (dC (.int 1))) (dCons (dBin fAdd (dVar 5) (dC (.int 1))) (dCons (dC (.int 0)) dNil))))))) dNil)) dNil) (gN 6))
    (dSeq (dPar 7 8 (dCons (dCall sp_law_cupful 2 0 g_law_cupful_0 (dCons (dVar 1) (dCons (dLst (dCons (dVar 4) (dCons (dC .non) dNil))) dNil)) dNil) (dCons (dCall sp_law_cupful 2 0 g_law_cupful_0 (dCons (dVar 1) (dCons (dLst (dCons (dVar 5) (dCons (dC .non) dNil))) dNil)) dNil) dNil)))
    (dSeq (dAsg (dAndV (dCall sp_law_own_integer 1 0 g_law_own_integer_0 (dCons (dVar 6) dNil) dNil) (dAndV (dOrV (dBin fIsN (dVar 7) (dC .non)) (dBin fGe (dVar 6) (dVar 7))) (dOrV (dBin fIsN (dVar 8) (dC .non)) (dBin fLe (dVar 6) (dVar 8))))) (gN 9))
    (dSeq (dIfS (dOr (dTst (dBin fNe (dCB fRepr (dCons (dCall sp_is_integer 0 1 g_is_integer_1 dNil (dCons (dVar 6) dNil)) dNil)) (dCB fRepr (dCons (dCall sp_law_own_integer 1 0 g_law_own_integer_0 (dCons (dVar 6) dNil) dNil) dNil)))) (dTst (dBin fNe (dCB fRepr (dCons (dCall sp_is_within 0 3 g_is_within_1 dNil (dCons (dVar 8) (dCons (dVar 7) (dCons (dVar 6) dNil)))) dNil)) (dCB fRepr (dCons (dVar 9) dNil)))))
    (dRet (dC (.bl false)))
    dNext)
    (dSeq (dIfS (dTst (dBin fNe (dCB fRepr (dCons (dLst (dCons (dCall sp_is_list 1 0 g_is_list_0 (dCons (dVar 3) dNil) dNil) (dCons (dCall sp_is_list 0 1 g_is_list_1 dNil (dCons (dLst (dCons (dVar 3) dNil)) dNil)) (dCons (dCall sp_is_list 1 0 g_is_list_0 (dCons (dTup (dCons (dVar 3) dNil)) dNil) dNil) dNil)))) dNil)) (dCB fRepr (dCons (dLst (dCons (dIsiT ["list", "tuple"] (dVar 3)) (dCons (dC (.bl true)) (dCons (dC (.bl true)) dNil)))) dNil))))
    (dRet (dC (.bl false)))
    dNext)
    (dIfS (dOr (dNot (dTst (dCall sp_law_row_right 1 0 g_law_row_right_0 (dCons (dVar 1) dNil) dNil))) (dNot (dTst (dCall sp_law_text_right 1 0 g_law_text_right_0 (dCons (dVar 1) dNil) dNil))))
    (dRet (dC (.bl false)))
    dNext)))))))))
    (dRet (dC (.bl true)))))
theorem der_law {P : Program} {w : World} {K : PySem.W.Frag} {mg : Str → Option Value} {base : Heap} (T : Facts K mg)
    {f_law_row_right : Addr} {fd_law_row_right : FuncData} {sp_law_row_right : SpD} (F_law_row_right : FnD K "_law_row_right" "_law_row_right" s_law_row_right [] f_law_row_right fd_law_row_right) (m_law_row_right : mg "_law_row_right" = some (.ref f_law_row_right)) (G_law_row_right : FnG P w K mg base 4 f_law_row_right fd_law_row_right ["vessel"] sp_law_row_right)
    {f_law_text_right : Addr} {fd_law_text_right : FuncData} {sp_law_text_right : SpD} (F_law_text_right : FnD K "_law_text_right" "_law_text_right" s_law_text_right [] f_law_text_right fd_law_text_right) (m_law_text_right : mg "_law_text_right" = some (.ref f_law_text_right)) (G_law_text_right : FnG P w K mg base 4 f_law_text_right fd_law_text_right ["vessel"] sp_law_text_right)
    {f_is_list : Addr} {fd_is_list : FuncData} {sp_is_list : SpD} (F_is_list : FnD K "is_list" "is_list" s_is_list [] f_is_list fd_is_list) (m_is_list : mg "is_list" = some (.ref f_is_list)) (G_is_list : FnG P w K mg base 1 f_is_list fd_is_list ["value"] sp_is_list)
    {f_is_integer : Addr} {fd_is_integer : FuncData} {sp_is_integer : SpD} (F_is_integer : FnD K "is_integer" "is_integer" s_is_integer [] f_is_integer fd_is_integer) (m_is_integer : mg "is_integer" = some (.ref f_is_integer)) (G_is_integer : FnG P w K mg base 1 f_is_integer fd_is_integer ["value"] sp_is_integer)
    {f_law_own_integer : Addr} {fd_law_own_integer : FuncData} {sp_law_own_integer : SpD} (F_law_own_integer : FnD K "_law_own_integer" "_law_own_integer" s_law_own_integer [] f_law_own_integer fd_law_own_integer) (m_law_own_integer : mg "_law_own_integer" = some (.ref f_law_own_integer)) (G_law_own_integer : FnG P w K mg base 1 f_law_own_integer fd_law_own_integer ["value"] sp_law_own_integer)
    {f_is_within : Addr} {fd_is_within : FuncData} {sp_is_within : SpD} (F_is_within : FnD K "is_within" "is_within" s_is_within [] f_is_within fd_is_within) (m_is_within : mg "is_within" = some (.ref f_is_within)) (G_is_within : FnG P w K mg base 2 f_is_within fd_is_within ["value", "least", "most"] sp_is_within)
    {f_law_cupful : Addr} {fd_law_cupful : FuncData} {sp_law_cupful : SpD} (F_law_cupful : FnD K "_law_cupful" "_law_cupful" s_law_cupful [] f_law_cupful fd_law_cupful) (m_law_cupful : mg "_law_cupful" = some (.ref f_law_cupful)) (G_law_cupful : FnG P w K mg base 2 f_law_cupful fd_law_cupful ["vessel", "some"] sp_law_cupful)
    {f_law_draught : Addr} {fd_law_draught : FuncData} {sp_law_draught : SpD} (F_law_draught : FnD K "_law_draught" "_law_draught" s_law_draught [] f_law_draught fd_law_draught) (m_law_draught : mg "_law_draught" = some (.ref f_law_draught)) (G_law_draught : FnG P w K mg base 1 f_law_draught fd_law_draught ["vessel", "many"] sp_law_draught)
    {f_law_value : Addr} {fd_law_value : FuncData} {sp_law_value : SpD} (F_law_value : FnD K "_law_value" "_law_value" s_law_value [] f_law_value fd_law_value) (m_law_value : mg "_law_value" = some (.ref f_law_value)) (G_law_value : FnG P w K mg base 3 f_law_value fd_law_value ["vessel"] sp_law_value)
    {f_law_vessel : Addr} {fd_law_vessel : FuncData} {sp_law_vessel : SpD} (F_law_vessel : FnD K "_law_vessel" "_law_vessel" s_law_vessel [] f_law_vessel fd_law_vessel) (m_law_vessel : mg "_law_vessel" = some (.ref f_law_vessel)) (G_law_vessel : FnG P w K mg base 1 f_law_vessel fd_law_vessel ["script"] sp_law_vessel) :
    Der P w K mg base N_law "law" sc_law (defBody s_law) 4 (t_law sp_law_row_right sp_law_text_right sp_is_list sp_is_integer sp_law_own_integer sp_is_within sp_law_cupful sp_law_draught sp_law_value sp_law_vessel) := by
  intro f cdv A outer s H E hr hgd
  have nd := S_law.nd
  have tk : Takes (dX P w K mg base N_law "law" sc_law f cdv A outer s H E) (wE E) := takes_of rfl rfl rfl rfl
  have po : PassesOwn (model P w) (dX P w K mg base N_law "law" sc_law f cdv A outer s H E).A (dX P w K mg base N_law "law" sc_law f cdv A outer s H E).env (dX P w K mg base N_law "law" sc_law f cdv A outer s H E).xe := passes_of rfl
  exact (dss_cons (ds_set 1 nd (de_call (G_law_vessel.up_ (by decide)) hr hgd tk rfl m_law_vessel F_law_vessel.kp (b_law_vessel_0 F_law_vessel) (da_cons (de_var 0) da_nil)))
      (dss_cons (ds_for po rfl (di_rng1 rfl T.z_range (da_cons de_int da_nil)) (gp_name (vs := [2]) nd (by decide) rfl (Or.inl rfl))
      (dss_cons (ds_set 3 nd (de_call (G_law_value.up_ (by decide)) hr hgd tk rfl m_law_value F_law_value.kp (b_law_value_0 F_law_value) (da_cons (de_var 1) da_nil)))
      (dss_cons (ds_par 4 5 nd (da_cons (de_op op_sub o2_sub (de_call (G_law_draught.up_ (by decide)) hr hgd tk rfl m_law_draught F_law_draught.kp (b_law_draught_0 F_law_draught) (da_cons (de_var 1) (da_cons de_int da_nil))) de_int) (da_cons (de_op op_sub o2_sub (de_call (G_law_draught.up_ (by decide)) hr hgd tk rfl m_law_draught F_law_draught.kp (b_law_draught_0 F_law_draught) (da_cons (de_var 1) (da_cons de_int da_nil))) de_int) da_nil)))
      (dss_cons (ds_set 6 nd (de_call (G_law_cupful.up_ (by decide)) hr hgd tk rfl m_law_cupful F_law_cupful.kp (b_law_cupful_0 F_law_cupful) (da_cons (de_var 1) (da_cons (de_lst (da_cons (de_var 3) (da_cons (de_var 4) (da_cons (de_var 5) (da_cons (de_op op_sub o2_sub (de_var 4) de_int) (da_cons (de_op op_add4 o2_add (de_var 5) de_int) (da_cons de_int da_nil))))))) da_nil))))
      (dss_cons (ds_par 7 8 nd (da_cons (de_call (G_law_cupful.up_ (by decide)) hr hgd tk rfl m_law_cupful F_law_cupful.kp (b_law_cupful_0 F_law_cupful) (da_cons (de_var 1) (da_cons (de_lst (da_cons (de_var 4) (da_cons de_non da_nil))) da_nil))) (da_cons (de_call (G_law_cupful.up_ (by decide)) hr hgd tk rfl m_law_cupful F_law_cupful.kp (b_law_cupful_0 F_law_cupful) (da_cons (de_var 1) (da_cons (de_lst (da_cons (de_var 5) (da_cons de_non da_nil))) da_nil))) da_nil)))
      (dss_cons (ds_set 9 nd (de_and (de_call (G_law_own_integer.up_ (by decide)) hr hgd tk rfl m_law_own_integer F_law_own_integer.kp (b_law_own_integer_0 F_law_own_integer) (da_cons (de_var 6) da_nil)) (de_and (de_or (de_cmp op_isN o2_isN (de_var 7) de_non) (de_one (de_cmp op_ge o2_ge (de_var 6) (de_var 7)))) (de_one (de_or (de_cmp op_isN o2_isN (de_var 8) de_non) (de_one (de_cmp op_le o2_le (de_var 6) (de_var 8))))))))
      (dss_cons (ds_if (dt_w (dw_or (dt_cmp (op_ne2 hr.units) o2_ne (de_cb (call_repr hgd hr) cd_repr rfl T.z_repr (by decide +kernel) (da_cons (de_callN (ks := ["value"]) (G_is_integer.up_ (by decide)) hr hgd tk rfl m_is_integer F_is_integer.kp (b_is_integer_1 F_is_integer) (dk_cons (de_var 6) dk_nil)) da_nil)) (de_cb (call_repr hgd hr) cd_repr rfl T.z_repr (by decide +kernel) (da_cons (de_call (G_law_own_integer.up_ (by decide)) hr hgd tk rfl m_law_own_integer F_law_own_integer.kp (b_law_own_integer_0 F_law_own_integer) (da_cons (de_var 6) da_nil)) da_nil))) (dw_or1 (dt_cmp (op_ne2 hr.units) o2_ne (de_cb (call_repr hgd hr) cd_repr rfl T.z_repr (by decide +kernel) (da_cons (de_callN (ks := ["most", "least", "value"]) (G_is_within.up_ (by decide)) hr hgd tk rfl m_is_within F_is_within.kp (b_is_within_1 F_is_within) (dk_cons (de_var 8) (dk_cons (de_var 7) (dk_cons (de_var 6) dk_nil)))) da_nil)) (de_cb (call_repr hgd hr) cd_repr rfl T.z_repr (by decide +kernel) (da_cons (de_var 9) da_nil))))))
      (dss_one (ds_ret de_bl))
      dss_nil)
      (dss_cons (ds_if (dt_cmp (op_ne2 hr.units) o2_ne (de_cb (call_repr hgd hr) cd_repr rfl T.z_repr (by decide +kernel) (da_cons (de_lst (da_cons (de_call (G_is_list.up_ (by decide)) hr hgd tk rfl m_is_list F_is_list.kp (b_is_list_0 F_is_list) (da_cons (de_var 3) da_nil)) (da_cons (de_callN (ks := ["value"]) (G_is_list.up_ (by decide)) hr hgd tk rfl m_is_list F_is_list.kp (b_is_list_1 F_is_list) (dk_cons (de_lst (da_cons (de_var 3) da_nil)) dk_nil)) (da_cons (de_call (G_is_list.up_ (by decide)) hr hgd tk rfl m_is_list F_is_list.kp (b_is_list_0 F_is_list) (da_cons (de_tup (da_cons (de_var 3) da_nil)) da_nil)) da_nil)))) da_nil)) (de_cb (call_repr hgd hr) cd_repr rfl T.z_repr (by decide +kernel) (da_cons (de_lst (da_cons (de_isi2 (S := "list") (T := "tuple") (by decide) (by decide) rfl T.z_isinstance rfl T.z_list (by decide +kernel) rfl T.z_tuple (by decide +kernel) (de_var 3)) (da_cons de_bl (da_cons de_bl da_nil)))) da_nil)))
      (dss_one (ds_ret de_bl))
      dss_nil)
      (dss_one (ds_if (dt_w (dw_or (dt_not (dt_val (de_call (G_law_row_right.up_ (by decide)) hr hgd tk rfl m_law_row_right F_law_row_right.kp (b_law_row_right_0 F_law_row_right) (da_cons (de_var 1) da_nil)))) (dw_or1 (dt_not (dt_val (de_call (G_law_text_right.up_ (by decide)) hr hgd tk rfl m_law_text_right F_law_text_right.kp (b_law_text_right_0 F_law_text_right) (da_cons (de_var 1) da_nil)))))))
      (dss_one (ds_ret de_bl))
      dss_nil))))))))))
      (dss_one (ds_ret de_bl))))
end Lw
namespace Lw
open PySem L2 Dx
local macro_rules | `(tactic| walk_at "dx") => `(tactic| simp only [dVar, dC, dBin, dUn, dTst, dTru, dAnd, dOr, dNot, dAndV, dOrV, dNotV, dIf, dChain, dNil, dCons, dTup, dLst, dLstM, dDic0, dDic1, dNoP, dPart, dSl, dCB, dIsi, dIsiT, dNext, dSeq, dRet, dRetF, dRetN, dDrop, dIfS, dBreak, dCont, dAsg, gN, gTu, gCn, gNl, dPar, dSetIx, dApp, dISeq, dIRng1, dIRng2, dFor, dCall, dLc, dLcM, dYes, dwipe, ends,
  List.getElem?_cons_zero, List.getElem?_cons_succ, List.getElem?_nil, List.set_cons_zero, List.set_cons_succ, List.length_cons, List.length_nil, Nat.zero_add, Nat.reduceAdd, true_and])
local macro_rules | `(tactic| walk_at "df") => `(tactic| simp only [fAdd, fSub, fMul, fMod, fFd, fPow, fNeg, fLt, fLe, fGt, fGe, fI, fI0, fU, fIsN, fNotN, fIx, fSl, fLen, fInt, fAbs, fMax2, fMin2, fStr, fTuple, fList, fAll, fAny, fSum, fEq_ii, fNe_ii, fEq_ss, fNe_ss, fEq_bb, fNe_bb, atI_0, atI_1, atI_2, ixN_0, ixN_1, ixN_2, Option.bind_some, Option.map_some, shown?, D.py, D.pys, updO_upd, kindD_non, kindD_bl, kindD_int, kindD_str, kindD_lst, kindD_tup, kindD_dic, items_lst, items_tup, items_wl, itemsL_lst, itemsL_wl, trkD_lst, items_ref, itemsL_ref, trkD_ref, kindD_ref, lenD_lst, lenD_tup, lenD_wl, lenD_dic, lenD_ref, lenD_str, truth_non, truth_bl, truth_int, truth_str, truth_dic, truth_lst, truth_tup, truth_wl, truth_ref, keyD_int, keyD_str, noneD_non, noneD_bl, noneD_int, noneD_str, noneD_lst, noneD_tup, noneD_dic, noneD_ref, sz0, sz1, sz2, sz3, sz4, sz5, sz6, sz7, sz8, sz9, sz10, sz11, sz12, sz13, sz14, sz15, sz16, sz17, sz18, sz19, sz20, sz21, sz22, sz23, sz24, sz25, sz26, sz27, sz28, sz29, sz30, true_and, and_true])
/-! ### plain values -/
def isInt : D → Bool
  | .int _ => true
  | _ => false
theorem isInt_of {O : DH} {d : D} {k : String} (h : kindD O d = some k) : (subT k "int" && !subT k "bool") = isInt d := by
  cases d <;> simp [kindD] at h <;> try (subst h; rfl)
  · split at h
    · cases h; rfl
    · cases h
def sd_is_integer : SpD := fun ds O Q E => match ds with
  | [d] => (kindD O d).isSome = true ∧ Q (.bl (isInt d)) O
  | _ => False
theorem rd_is_integer : ∀ ds O Q E, sd_is_integer ds O Q E → t_is_integer (ends Q E) (dstart N_is_integer.length ds) O := by
  intro ds O Q E h
  unfold sd_is_integer at h
  split at h
  · rename_i d
    obtain ⟨hk, q⟩ := h
    show t_is_integer (ends Q E) [some d] O
    unfold t_is_integer
    walk_at "dx"
    cases hd : kindD O d with
    | none => rw [hd] at hk; cases hk
    | some k =>
      have e := isInt_of hd
      rw [← e] at q
      cases h1 : subT k "int" with
      | true =>
        rw [h1] at q
        simp only [h1]
        exact ⟨O, Sub.refl O, q⟩
      | false =>
        rw [h1] at q
        simp only [h1]
        exact ⟨O, Sub.refl O, q⟩
  · exact h.elim
/-- a bound: an int, or None -/
def bnd : D → Option (Option Int)
  | .int i => some (some i)
  | .non => some none
  | _ => none
def within (d : D) (l h : Option Int) : Bool := match d with
  | .int v => (match l with
    | some l => decide (l ≤ v)
    | none => true) && (match h with
    | some h => decide (v ≤ h)
    | none => true)
  | _ => false
def sd_is_within : SpD := fun ds O Q E => match ds with
  | [d, lo, hi] => ∃ l h, bnd lo = some l ∧ bnd hi = some h ∧ (kindD O d).isSome = true ∧ Q (.bl (within d l h)) O
  | _ => False
theorem rd_is_within : ∀ ds O Q E, sd_is_within ds O Q E → t_is_within sd_is_integer (ends Q E) (dstart N_is_within.length ds) O := by
  intro ds O Q E h
  unfold sd_is_within at h
  split at h
  · rename_i d lo hi
    obtain ⟨l, h, hl, hh, hk, q⟩ := h
    show t_is_within sd_is_integer (ends Q E) [some d, some lo, some hi] O
    unfold t_is_within
    walk_at "dx"
    simp only [g_is_integer_0, mx_is_integer_0, sd_is_integer, hk, true_and]
    have fin : ∀ b, b = within d l h → ∃ O2, Dx.Sub O2 O ∧ Q (.bl b) O2 := fun b e => ⟨O, Sub.refl O, by rw [e]; exact q⟩
    cases d with
    | int v =>
      simp only [isInt, Bool.not_true]
      cases lo <;> simp [bnd] at hl <;> cases hi <;> simp [bnd] at hh <;> subst hl <;> subst hh <;> walk_at "df"
      · exact fin _ rfl
      · exact fin _ (by simp [within])
      · rename_i i
        cases hd : decide (i ≤ v) with
        | true => exact fin _ (by simp [within, hd])
        | false => exact fin _ (by simp [within, hd])
      · rename_i i j
        cases hd : decide (i ≤ v) with
        | true => exact fin _ (by simp [within, hd])
        | false => exact fin _ (by simp [within, hd])
    | _ => exact fin _ rfl
  · exact h.elim
theorem kind_sub {O O' : DH} (s : Dx.Sub O O') {d : D} {k : String} (h : kindD O d = some k) : kindD O' d = some k := by
  cases d <;> try exact h
  rename_i a
  unfold kindD at h ⊢
  simp only at h ⊢
  cases e : O a with
  | none => rw [e] at h; cases h
  | some m => rw [e] at h; rw [s a m e]; exact h
def Kd (O : DH) (d : D) : Prop := (kindD O d).isSome = true
theorem Kd.sub {O O' : DH} (s : Dx.Sub O O') {d : D} (h : Kd O d) : Kd O' d := by
  obtain ⟨k, hk⟩ := Option.isSome_iff_exists.mp h
  show (kindD O' d).isSome = true
  rw [kind_sub s hk]; rfl
theorem seq_items {O : DH} {d : D} {k : String} (h : kindD O d = some k) : anyT k ["list", "tuple"] = (items O d).isSome := by
  cases d <;> simp [kindD, items] at h ⊢ <;> try (subst h; rfl)
  rename_i a
  cases e : O a with
  | none => rw [e] at h; cases h
  | some m =>
    rw [e] at h
    cases m with
    | lst ds => cases h; rfl
    | dic ks => cases h
    | ins C fs => cases h
theorem len_items {O : DH} {d : D} {es : List D} (h : items O d = some es) : lenD O d = some es.length := by
  have gen : (items O d).map List.length = some es.length := by rw [h]; rfl
  cases d <;> first | exact gen | cases h
def sd_is_list : SpD := fun ds O Q E => match ds with
  | [d] => Kd O d ∧ Q (.bl (items O d).isSome) O
  | _ => False
theorem rd_is_list : ∀ ds O Q E, sd_is_list ds O Q E → t_is_list (ends Q E) (dstart N_is_list.length ds) O := by
  intro ds O Q E h
  unfold sd_is_list at h
  split at h
  · rename_i d
    obtain ⟨hk, q⟩ := h
    obtain ⟨k, hk⟩ := Option.isSome_iff_exists.mp hk
    show t_is_list (ends Q E) [some d] O
    unfold t_is_list
    walk_at "dx"
    simp only [hk, seq_items hk]
    exact ⟨O, Sub.refl O, q⟩
  · exact h.elim
/-- a value whose items, where it is a list or tuple, are plain -/
def Row (O : DH) (d : D) : Prop := Kd O d ∧ ∀ ds, items O d = some ds → ds.length ≤ sizeLine ∧ ∀ e ∈ ds, Kd O e
def isRow (O : DH) (d : D) (n : Int) : Bool := match items O d with
  | some ds => decide ((ds.length : Int) = n) && ds.all isInt
  | none => false
def sd_is_row : SpD := fun ds O Q E => match ds with
  | [d, .int n] => Row O d ∧ Q (.bl (isRow O d n)) O
  | _ => False
theorem all_bls (f : D → Bool) (ds : List D) : blsD (ds.map fun d => D.bl (f d)) = some (ds.map f) := by
  induction ds with
  | nil => rfl
  | cons d r ih => rw [List.map_cons, List.map_cons]; unfold blsD; rw [ih]; rfl
theorem fAll_map {O O3 : DH} (f : D → Bool) (ds : List D) {Q : QD} (s : Dx.Sub O O3) (q : Q (.bl (ds.all f)) O) : fAll O3 [.lst (ds.map fun d => .bl (f d))] fun z => ∃ O2, Dx.Sub O2 O3 ∧ Q z O2 := by
  show (match blsD (ds.map fun d => D.bl (f d)) with
    | some bs => (∃ O2, Dx.Sub O2 O3 ∧ Q (.bl (bs.all id)) O2)
    | none => False)
  rw [all_bls]
  refine ⟨O, s, ?_⟩
  rw [List.all_map]
  exact q
theorem guard_sub {O : DH} {d : D} {ds : List D} (h : items O d = some ds) : ∀ O2, Dx.Sub O O2 → guardD d ds O2 := fun O2 s => by
  cases d <;> try trivial
  rename_i a
  unfold items at h
  simp only at h
  split at h
  · next e => cases h; exact s _ _ e
  · cases h
theorem rd_is_row : ∀ ds O Q E, sd_is_row ds O Q E → t_is_row sd_is_list sd_is_integer (ends Q E) (dstart N_is_row.length ds) O := by
  intro ds O Q E h
  unfold sd_is_row at h
  split at h
  · rename_i d n
    obtain ⟨⟨hk, hi⟩, q⟩ := h
    show t_is_row sd_is_list sd_is_integer (ends Q E) [some d, some (.int n), none] O
    unfold t_is_row isRow at *
    walk_at "dx"
    simp only [g_is_list_0, mx_is_list_0, sd_is_list, g_is_integer_0, mx_is_integer_0, sd_is_integer, hk, true_and]
    cases he : items O d with
    | none =>
      rw [he] at q
      exact ⟨O, Sub.refl O, q⟩
    | some es =>
      rw [he] at q
      obtain ⟨hz, hke⟩ := hi es he
      simp only [fLen, len_items he, fEq_ii, Option.isSome_some] at q ⊢
      cases hl : decide ((es.length : Int) = n) with
      | false =>
        rw [hl] at q
        exact ⟨O, Sub.refl O, q⟩
      | true =>
        rw [hl] at q
        simp only [he]
        intro a ha
        refine lc_map (fun e => .bl (isInt e)) hz ha (guard_sub he) (fun e hem O2 R s r => ?_) ?_
        · exact ⟨rfl, rfl, (hke e hem).sub s, r⟩
        · refine fAll_map isInt es (Sub.refl O) ?_
          exact q
  · exact h.elim
end Lw
namespace Lw
open PySem L2 Dx
local macro_rules | `(tactic| walk_at "dx") => `(tactic| simp only [dVar, dC, dBin, dUn, dTst, dTru, dAnd, dOr, dNot, dAndV, dOrV, dNotV, dIf, dChain, dNil, dCons, dTup, dLst, dLstM, dDic0, dDic1, dNoP, dPart, dSl, dCB, dIsi, dIsiT, dNext, dSeq, dRet, dRetF, dRetN, dDrop, dIfS, dBreak, dCont, dAsg, gN, gTu, gCn, gNl, dPar, dSetIx, dApp, dISeq, dIRng1, dIRng2, dFor, dCall, dLc, dLcM, dYes, dwipe, ends,
  List.getElem?_cons_zero, List.getElem?_cons_succ, List.getElem?_nil, List.set_cons_zero, List.set_cons_succ, List.length_cons, List.length_nil, Nat.zero_add, Nat.reduceAdd, true_and])
local macro_rules | `(tactic| walk_at "df") => `(tactic| simp only [fAdd, fSub, fMul, fMod, fFd, fPow, fNeg, fLt, fLe, fGt, fGe, fI, fI0, fU, fIsN, fNotN, fIx, fSl, fLen, fInt, fAbs, fMax2, fMin2, fStr, fTuple, fList, fAll, fAny, fSum, fEq_ii, fNe_ii, fEq_ss, fNe_ss, fEq_bb, fNe_bb, atI_0, atI_1, atI_2, ixN_0, ixN_1, ixN_2, Option.bind_some, Option.map_some, shown?, D.py, D.pys, updO_upd, kindD_non, kindD_bl, kindD_int, kindD_str, kindD_lst, kindD_tup, kindD_dic, items_lst, items_tup, items_wl, itemsL_lst, itemsL_wl, trkD_lst, items_ref, itemsL_ref, trkD_ref, kindD_ref, lenD_lst, lenD_tup, lenD_wl, lenD_dic, lenD_ref, lenD_str, truth_non, truth_bl, truth_int, truth_str, truth_dic, truth_lst, truth_tup, truth_wl, truth_ref, keyD_int, keyD_str, noneD_non, noneD_bl, noneD_int, noneD_str, noneD_lst, noneD_tup, noneD_dic, noneD_ref, sz0, sz1, sz2, sz3, sz4, sz5, sz6, sz7, sz8, sz9, sz10, sz11, sz12, sz13, sz14, sz15, sz16, sz17, sz18, sz19, sz20, sz21, sz22, sz23, sz24, sz25, sz26, sz27, sz28, sz29, sz30, true_and, and_true])
def isText (O : DH) (d : D) (L M : Int) : Bool := match items O d with
  | some ds => decide ((ds.length : Int) ≤ M) && ds.all fun e => within e (some 0) (some (L - 1))
  | none => false
def sd_is_text : SpD := fun ds O Q E => match ds with
  | [d, .int L, .int M] => Row O d ∧ Q (.bl (isText O d L M)) O
  | _ => False
theorem rd_is_text : ∀ ds O Q E, sd_is_text ds O Q E → t_is_text sd_is_list sd_is_within (ends Q E) (dstart N_is_text.length ds) O := by
  intro ds O Q E h
  unfold sd_is_text at h
  split at h
  · rename_i d L M
    obtain ⟨⟨hk, hi⟩, q⟩ := h
    show t_is_text sd_is_list sd_is_within (ends Q E) [some d, some (.int L), some (.int M), none] O
    unfold t_is_text isText at *
    walk_at "dx"
    simp only [g_is_list_0, mx_is_list_0, sd_is_list, hk, true_and]
    cases he : items O d with
    | none =>
      rw [he] at q
      exact ⟨O, Sub.refl O, q⟩
    | some es =>
      rw [he] at q
      obtain ⟨hz, hke⟩ := hi es he
      simp only [fLen, len_items he, fLe, fI0, Option.isSome_some] at q ⊢
      cases hl : decide ((es.length : Int) ≤ M) with
      | false =>
        rw [hl] at q
        exact ⟨O, Sub.refl O, q⟩
      | true =>
        rw [hl] at q
        simp only [he]
        intro a ha
        refine lc_map (fun e => .bl (within e (some 0) (some (L - 1)))) hz ha (guard_sub he) (fun e hem O2 R s r => ?_) ?_
        · exact ⟨rfl, rfl, some 0, some (L - 1), rfl, rfl, (hke e hem).sub s, r⟩
        · exact fAll_map _ es (Sub.refl O) q
  · exact h.elim
/-! ### plain values -/
def leaf : D → Bool
  | .non | .bl _ | .int _ | .str _ | .lst _ | .tup _ | .dic _ => true
  | _ => false
def plain : D → Bool
  | .lst ds | .tup ds => decide (ds.length ≤ 100000) && ds.all leaf
  | d => leaf d
theorem leaf_kd {d : D} (h : leaf d = true) (O : DH) : Kd O d := by cases d <;> first | rfl | cases h
theorem plain_leaf {d : D} (h : plain d = true) : leaf d = true := by cases d <;> first | rfl | cases h
theorem plain_row {d : D} (h : plain d = true) (O : DH) : Row O d := by
  refine ⟨leaf_kd (plain_leaf h) O, fun ds hd => ?_⟩
  have fin : ∀ ds : List D, (decide (ds.length ≤ 100000) && ds.all leaf) = true → ds.length ≤ sizeLine ∧ ∀ e ∈ ds, Kd O e := fun ds h => by
    rw [Bool.and_eq_true, decide_eq_true_eq, List.all_eq_true] at h
    exact ⟨small_line h.1, fun e he => leaf_kd (h.2 e he) O⟩
  cases d with
  | lst es => cases hd; exact fin _ h
  | tup es => cases hd; exact fin _ h
  | wl => cases h
  | ref => cases h
  | _ => cases hd
theorem log_small {i : Int} (h1 : -(2 ^ 100) < i) (h2 : i < 2 ^ 100) : i.natAbs.log2 < 1920 := by
  by_cases hz : i.natAbs = 0
  · rw [hz]; decide
  · have h : i.natAbs.log2 < 100 := (Nat.log2_lt hz).mpr (by omega)
    omega
def sd_law_value : SpD := fun ds O Q E => match ds with
  | [.ref v] => ∃ t m, O v = some m ∧ VesM t m ∧ t < 999000 ∧ ∀ d m', plain d = true → VesM (t + 5) m' → Q d (updO O v m')
  | _ => False
theorem rd_law_value : ∀ ds O Q E, sd_law_value ds O Q E → t_law_value sd_pick sd_draw (ends Q E) (dstart N_law_value.length ds) O := by
  intro ds O Q E h
  unfold sd_law_value at h
  split at h
  · rename_i v
    obtain ⟨t, m, hv, hm, ht, q⟩ := h
    show t_law_value sd_pick sd_draw (ends Q E) [some (.ref v), none, none] O
    unfold t_law_value
    walk_at "dx"
    simp only [g_law_cupful_0, mx_law_cupful_0, g_law_draught_0, mx_law_draught_0]
    refine ⟨t, m, hv, hm, by omega, by decide, by decide, fun r1 m1 a1 b1 hm1 => ?_⟩
    walk_at "df"
    refine ⟨⟨by decide, by decide, by decide⟩, t + 1, m1, updO_same, hm1, by omega, by decide, by decide, fun r2 m2 a2 b2 hm2 => ?_⟩
    refine ⟨t + 1 + 1, m2, updO_same, hm2, by omega, by decide, by decide, fun r3 m3 a3 b3 hm3 => ?_⟩
    refine ⟨t + 1 + 1 + 1, m3, updO_same, hm3, by omega, Nat.succ_pos _, (by decide : 3 < 1000000), fun x m4 hx hm4 => ?_⟩
    have hx' : ∃ n : Int, x = .int n ∧ -(2 ^ 100) < n ∧ n < 2 ^ 100 := by
      simp only [List.mem_cons, List.not_mem_nil, or_false] at hx
      rcases hx with rfl | rfl | rfl
      · exact ⟨_, rfl, by omega, by omega⟩
      · have e10 : (10 : Int) ^ Int.toNat 20 = 100000000000000000000 := by decide
        exact ⟨_, rfl, by omega, by omega⟩
      · exact ⟨_, rfl, by omega, by omega⟩
    obtain ⟨n, rfl, n1, n2⟩ := hx'
    walk_at "df"
    refine ⟨log_small n1 n2, fun a ha => ⟨updO_same, _, _, rfl, Sub.new ha, ha, t + 4, m4, updO_same, hm4.mono (by omega), by omega, Nat.succ_pos _, (by decide : 14 < 1000000), fun x m5 hx hm5 => ?_⟩⟩
    have hp : plain x = true := all_in plain rfl hx
    rw [updO_upd]
    exact ⟨_, Sub.refl _, q x m5 hp (hm5.mono (by omega))⟩
  · exact h.elim
def sd_own_integer : SpD := fun ds O Q E => match ds with
  | [d] => (kindD O d).isSome = true ∧ Q (.bl (isInt d)) O
  | _ => False
theorem rd_law_own_integer : ∀ ds O Q E, sd_own_integer ds O Q E → t_law_own_integer (ends Q E) (dstart N_law_own_integer.length ds) O := rd_is_integer
def sd_law_odd : SpD := fun ds O Q E => match ds with
  | [.ref v] => ∃ t m, O v = some m ∧ VesM t m ∧ t < 999000 ∧ ∀ d m', plain d = true → isInt d = false → VesM (t + 1) m' → Q d (updO O v m')
  | _ => False
theorem rd_law_odd : ∀ ds O Q E, sd_law_odd ds O Q E → t_law_odd sd_pick (ends Q E) (dstart N_law_odd.length ds) O := by
  intro ds O Q E h
  unfold sd_law_odd at h
  split at h
  · rename_i v
    obtain ⟨t, m, hv, hm, ht, q⟩ := h
    show t_law_odd sd_pick (ends Q E) [some (.ref v)] O
    unfold t_law_odd
    walk_at "dx"
    simp only [g_law_cupful_0, mx_law_cupful_0]
    walk_at "df"
    refine ⟨t, m, hv, hm, by omega, Nat.succ_pos _, (by decide : 8 < 1000000), fun x m2 hx hm2 => ?_⟩
    have hp : (plain x && !isInt x) = true := all_in (fun x => plain x && !isInt x) rfl hx
    rw [Bool.and_eq_true, Bool.not_eq_true'] at hp
    exact ⟨_, Sub.refl _, q x m2 hp.1 hp.2 hm2⟩
  · exact h.elim
def sd_law_bent : SpD := fun ds O Q E => match ds with
  | [.ref v, .lst es, d] => ∃ t m, O v = some m ∧ VesM t m ∧ t < 999000 ∧ es.length ≤ 100000 ∧ ∀ xs ys m', (∀ e ∈ xs, e ∈ es) → (∀ e ∈ ys, e ∈ es) → xs.length ≤ es.length → ys.length ≤ es.length → VesM (t + 2) m' → Q (.lst (xs ++ [d] ++ ys)) (updO O v m')
  | _ => False
theorem cut_sub (es : List D) (lo hi : Option Int) : (∀ e ∈ cutD es lo hi, e ∈ es) ∧ (cutD es lo hi).length ≤ es.length := by
  unfold cutD
  refine ⟨fun e he => List.mem_of_mem_drop (List.mem_of_mem_take he), ?_⟩
  rw [List.length_take, List.length_drop]
  omega
theorem rd_law_bent : ∀ ds O Q E, sd_law_bent ds O Q E → t_law_bent sd_draw (ends Q E) (dstart N_law_bent.length ds) O := by
  intro ds O Q E h
  unfold sd_law_bent at h
  split at h
  · rename_i v es d
    obtain ⟨t, m, hv, hm, ht, hl, q⟩ := h
    show t_law_bent sd_draw (ends Q E) [some (.ref v), some (.lst es), some d, none] O
    unfold t_law_bent
    walk_at "dx"
    simp only [g_law_draught_0, mx_law_draught_0]
    walk_at "df"
    refine ⟨t, m, hv, hm, by omega, by omega, by omega, fun r m1 a1 b1 hm1 => ?_⟩
    obtain ⟨x1, x2⟩ := cut_sub es none (some r)
    refine ⟨by rw [List.length_singleton]; exact Nat.le_trans (m := 300000) (by omega) (by decide), t + 1, m1, updO_same, hm1, by omega, by decide, by decide, fun r2 m2 a2 b2 hm2 => ?_⟩
    walk_at "df"
    obtain ⟨y1, y2⟩ := cut_sub es (some (r + r2)) none
    refine ⟨by rw [List.length_append, List.length_singleton]; refine Nat.le_trans (m := 300000) (by omega) (by decide), _, Sub.refl _, q _ _ _ x1 y1 x2 y2 (hm2.mono (by omega))⟩
  · exact h.elim
end Lw
namespace Lw
open PySem L2 Dx
local macro_rules | `(tactic| walk_at "dx") => `(tactic| simp only [dVar, dC, dBin, dUn, dTst, dTru, dAnd, dOr, dNot, dAndV, dOrV, dNotV, dIf, dChain, dNil, dCons, dTup, dLst, dLstM, dDic0, dDic1, dNoP, dPart, dSl, dCB, dIsi, dIsiT, dNext, dSeq, dRet, dRetF, dRetN, dDrop, dIfS, dBreak, dCont, dAsg, gN, gTu, gCn, gNl, dPar, dSetIx, dApp, dISeq, dIRng1, dIRng2, dFor, dCall, dLc, dLcM, dYes, dwipe, ends,
  List.getElem?_cons_zero, List.getElem?_cons_succ, List.getElem?_nil, List.set_cons_zero, List.set_cons_succ, List.length_cons, List.length_nil, Nat.zero_add, Nat.reduceAdd, true_and])
local macro_rules | `(tactic| walk_at "df") => `(tactic| simp only [fAdd, fSub, fMul, fMod, fFd, fPow, fNeg, fLt, fLe, fGt, fGe, fI, fI0, fU, fIsN, fNotN, fIx, fSl, fLen, fInt, fAbs, fMax2, fMin2, fStr, fTuple, fList, fAll, fAny, fSum, fEq_ii, fNe_ii, fEq_ss, fNe_ss, fEq_bb, fNe_bb, atI_0, atI_1, atI_2, ixN_0, ixN_1, ixN_2, Option.bind_some, Option.map_some, shown?, D.py, D.pys, updO_upd, kindD_non, kindD_bl, kindD_int, kindD_str, kindD_lst, kindD_tup, kindD_dic, items_lst, items_tup, items_wl, itemsL_lst, itemsL_wl, trkD_lst, items_ref, itemsL_ref, trkD_ref, kindD_ref, lenD_lst, lenD_tup, lenD_wl, lenD_dic, lenD_ref, lenD_str, truth_non, truth_bl, truth_int, truth_str, truth_dic, truth_lst, truth_tup, truth_wl, truth_ref, keyD_int, keyD_str, noneD_non, noneD_bl, noneD_int, noneD_str, noneD_lst, noneD_tup, noneD_dic, noneD_ref, sz0, sz1, sz2, sz3, sz4, sz5, sz6, sz7, sz8, sz9, sz10, sz11, sz12, sz13, sz14, sz15, sz16, sz17, sz18, sz19, sz20, sz21, sz22, sz23, sz24, sz25, sz26, sz27, sz28, sz29, sz30, true_and, and_true])
theorem isRow_lst {O : DH} {ds : List D} {n : Int} : isRow O (.lst ds) n = (decide ((ds.length : Int) = n) && ds.all isInt) := rfl
theorem isRow_tup {O : DH} {ds : List D} {n : Int} : isRow O (.tup ds) n = (decide ((ds.length : Int) = n) && ds.all isInt) := rfl
theorem isInt_leaf {d : D} (h : isInt d = true) : leaf d = true := by cases d <;> first | rfl | cases h
theorem plain_lst {ds : List D} (h : ds.length ≤ 100000) (h2 : ∀ d ∈ ds, leaf d = true) : plain (.lst ds) = true := by
  show (decide _ && _) = true
  rw [Bool.and_eq_true, decide_eq_true_eq, List.all_eq_true]
  exact ⟨h, h2⟩
theorem plain_tup {ds : List D} (h : ds.length ≤ 100000) (h2 : ∀ d ∈ ds, leaf d = true) : plain (.tup ds) = true := plain_lst (ds := ds) h h2
theorem all_get {ds : List D} {p : D → Prop} (h : ∀ (k : Nat) (y : D), ds[k]? = some y → p y) : ∀ d ∈ ds, p d := fun d hd => by
  obtain ⟨k, hk⟩ := List.getElem?_of_mem hd
  exact h k d hk
theorem all_mid {p : D → Bool} {xs ys : List D} {d : D} (h : p d = false) : (xs ++ [d] ++ ys).all p = false := by
  rw [List.all_append, List.all_append, List.all_cons, h]
  simp
def sd_right : SpD := fun ds O Q E => match ds with
  | [.ref v] => ∃ t m, O v = some m ∧ VesM t m ∧ t < 990000 ∧ ∀ m', VesM (t + 100) m' → Q (.bl true) (updO O v m')
  | _ => False
theorem rd_law_row_right : ∀ ds O Q E, sd_right ds O Q E → t_law_row_right sd_is_row sd_law_bent sd_law_odd sd_pick sd_draw (ends Q E) (dstart N_law_row_right.length ds) O := by
  intro ds O Q E h
  unfold sd_right at h
  split at h
  · rename_i v
    obtain ⟨t, m, hv, hm, ht, q⟩ := h
    show t_law_row_right sd_is_row sd_law_bent sd_law_odd sd_pick sd_draw (ends Q E) [some (.ref v), none, none, none, none, none] O
    unfold t_law_row_right
    walk_at "dx"
    simp only [g_law_draught_0, mx_law_draught_0]
    refine ⟨t, m, hv, hm, by omega, by decide, by decide, fun r m1 a1 b1 hm1 => ?_⟩
    obtain ⟨n, rfl⟩ := Int.eq_ofNat_of_zero_le a1
    have hn : n < 6 := by omega
    walk_at "df"
    refine ⟨by omega, by omega, fun a ha => ?_⟩
    refine lc_draw (v := v) (m0 := m1) (fun _ _ => trivial) (fun k m => VesM (t + 1 + 2 * k) m) (fun _ d => isInt d = true) (by rw [intsFrom_len]; exact small_line (by omega)) ha updO_same (hm1.mono (by omega)) (fun k d hk O2 m R hO2 im r => ?_) fun ys m2 hl hp hm2 => ?_
    · have hkn : k < n := (intsFrom_get hk).1
      walk_at "dx"
      simp only [g_law_cupful_0, mx_law_cupful_0, g_law_draught_0, mx_law_draught_0]
      walk_at "df"
      have p50 : CPow 10 50 := ⟨by decide, by decide, by decide⟩
      have p21 : CPow 10 21 := ⟨by decide, by decide, by decide⟩
      refine ⟨p50, p21, t + 1 + 2 * k, m, hO2, im, by omega, by decide, by decide, fun r2 m3 a2 b2 hm3 => ?_⟩
      refine ⟨_, m3, updO_same, hm3, by omega, Nat.succ_pos _, (by decide : 6 < 1000000), fun x m4 hx hm4 => ?_⟩
      rw [updO_upd]
      exact r x m4 (all_in isInt rfl hx) (hm4.mono (by omega))
    · rw [intsFrom_len] at hl hm2
      have hpi := all_get hp
      have hl2 : ys.length = n := hl
      have hps : ∀ O, Row O (.lst ys) := plain_row (plain_lst (by omega) fun d hd => isInt_leaf (hpi d hd))
      have hpt : ∀ O, Row O (.tup ys) := plain_row (plain_tup (by omega) fun d hd => isInt_leaf (hpi d hd))
      have hp4 : ∀ O, Row O (.lst (ys ++ [.int 4])) := plain_row (plain_lst (by rw [List.length_append, List.length_singleton]; omega) fun d hd => by
        rcases List.mem_append.mp hd with hd | hd
        · exact isInt_leaf (hpi d hd)
        · exact all_in leaf rfl hd)
      walk_at "dx"
      walk_at "df"
      simp only [g_is_row_0, mx_is_row_0, g_is_row_1, mx_is_row_1, sd_is_row, hps, hpt, hp4, true_and, g_law_odd_0, mx_law_odd_0]
      refine ⟨small_line (by omega), t + 20, m2, updO_same, hm2.mono (by omega), by omega, fun odd m3 ho1 ho2 hm3 => ?_⟩
      simp only [g_law_bent_0, mx_law_bent_0]
      refine ⟨t + 21, m3, updO_same, hm3.mono (by omega), by omega, by omega, fun xs zs m4 hx hz hxl hzl hm4 => ?_⟩
      have hall : ∀ d ∈ xs ++ [odd] ++ zs, leaf d = true := fun d hd => by
        rcases List.mem_append.mp hd with hd | hd
        · rcases List.mem_append.mp hd with hd | hd
          · exact isInt_leaf (hpi d (hx d hd))
          · rw [List.mem_singleton.mp hd]; exact plain_leaf ho1
        · exact isInt_leaf (hpi d (hz d hd))
      have hsl : (xs ++ [odd] ++ zs).length ≤ 100000 := by rw [List.length_append, List.length_append, List.length_singleton]; omega
      have hss : ∀ O, Row O (.lst (xs ++ [odd] ++ zs)) := plain_row (plain_lst hsl hall)
      have hst : ∀ O, Row O (.tup (xs ++ [odd] ++ zs)) := plain_row (plain_tup hsl hall)
      have hno : (xs ++ [odd] ++ zs).all isInt = false := all_mid ho2
      generalize xs ++ [odd] ++ zs = sp at hss hst hno
      have hys : ys.all isInt = true := List.all_eq_true.mpr hpi
      have hstr : ∀ (O : DH) z, Row O (.str z) := fun O z => plain_row (d := .str z) rfl O
      have hdic : ∀ (O : DH) z, Row O (.dic z) := fun O z => plain_row (d := .dic z) rfl O
      have hnon : ∀ O, Row O .non := fun O => plain_row (d := .non) rfl O
      simp only [hss, hst, hstr, hdic, hnon, true_and, updO_upd, Option.map_some]
      have c1 : ∀ O, isRow O (.lst ys) n = true := fun O => by rw [isRow_lst, hys, hl2]; simp
      have c2 : ∀ O, isRow O (.tup ys) n = true := fun O => by rw [isRow_tup, hys, hl2]; simp
      have c3 : ∀ O, isRow O (.lst ys) (n + 1) = false := fun O => by rw [isRow_lst, hl2]; simp; omega
      have c4 : ∀ O, isRow O (.lst (ys ++ [.int 4])) n = false := fun O => by rw [isRow_lst, List.length_append, hl2, decide_eq_false (by rw [List.length_singleton]; omega), Bool.false_and]
      have c5 : ∀ O k, isRow O (.lst sp) k = false := fun O k => by rw [isRow_lst, hno, Bool.and_false]
      have c6 : ∀ O k, isRow O (.tup sp) k = false := fun O k => by rw [isRow_tup, hno, Bool.and_false]
      have c7 : ∀ O k z, isRow O (.str z) k = false := fun O k z => rfl
      have c8 : ∀ O k z, isRow O (.dic z) k = false := fun O k z => rfl
      have c9 : ∀ O k, isRow O .non k = false := fun O k => rfl
      have hmul : MulOk (Str.ofString "0") n := PyProof.Rows.mulOk_of 1 6 (by decide) (by omega) (by omega) (by decide) (by decide)
      simp only [c1, c2, c3, c4, c5, c6, c7, c8, c9, hmul, lenD_lst, items_lst, hst, true_and, List.cons_append, List.nil_append]
      show fRepr (updO O v m4) [.lst (List.map D.bl [true, true, false, false, false, false, false, false, false])] _
      refine fRepr_bls (by decide) ?_
      show fRepr (updO O v m4) [.lst (List.map D.bl [true, true, false, false, false, false, false, false, false])] _
      refine fRepr_bls (by decide) ?_
      rw [fEq_ss, decide_eq_true rfl]
      exact ⟨_, Sub.refl _, q m4 (hm4.mono (by omega))⟩
  · exact h.elim
end Lw
namespace Lw
open PySem L2 Dx
local macro_rules | `(tactic| walk_at "dx") => `(tactic| simp only [dVar, dC, dBin, dUn, dTst, dTru, dAnd, dOr, dNot, dAndV, dOrV, dNotV, dIf, dChain, dNil, dCons, dTup, dLst, dLstM, dDic0, dDic1, dNoP, dPart, dSl, dCB, dIsi, dIsiT, dNext, dSeq, dRet, dRetF, dRetN, dDrop, dIfS, dBreak, dCont, dAsg, gN, gTu, gCn, gNl, dPar, dSetIx, dApp, dISeq, dIRng1, dIRng2, dFor, dCall, dLc, dLcM, dYes, dwipe, ends,
  List.getElem?_cons_zero, List.getElem?_cons_succ, List.getElem?_nil, List.set_cons_zero, List.set_cons_succ, List.length_cons, List.length_nil, Nat.zero_add, Nat.reduceAdd, true_and])
local macro_rules | `(tactic| walk_at "df") => `(tactic| simp only [fAdd, fSub, fMul, fMod, fFd, fPow, fNeg, fLt, fLe, fGt, fGe, fI, fI0, fU, fIsN, fNotN, fIx, fSl, fLen, fInt, fAbs, fMax2, fMin2, fStr, fTuple, fList, fAll, fAny, fSum, fEq_ii, fNe_ii, fEq_ss, fNe_ss, fEq_bb, fNe_bb, atI_0, atI_1, atI_2, ixN_0, ixN_1, ixN_2, Option.bind_some, Option.map_some, shown?, D.py, D.pys, updO_upd, kindD_non, kindD_bl, kindD_int, kindD_str, kindD_lst, kindD_tup, kindD_dic, items_lst, items_tup, items_wl, itemsL_lst, itemsL_wl, trkD_lst, items_ref, itemsL_ref, trkD_ref, kindD_ref, lenD_lst, lenD_tup, lenD_wl, lenD_dic, lenD_ref, lenD_str, truth_non, truth_bl, truth_int, truth_str, truth_dic, truth_lst, truth_tup, truth_wl, truth_ref, keyD_int, keyD_str, noneD_non, noneD_bl, noneD_int, noneD_str, noneD_lst, noneD_tup, noneD_dic, noneD_ref, sz0, sz1, sz2, sz3, sz4, sz5, sz6, sz7, sz8, sz9, sz10, sz11, sz12, sz13, sz14, sz15, sz16, sz17, sz18, sz19, sz20, sz21, sz22, sz23, sz24, sz25, sz26, sz27, sz28, sz29, sz30, true_and, and_true])
theorem isText_lst {O : DH} {ds : List D} {L M : Int} : isText O (.lst ds) L M = (decide ((ds.length : Int) ≤ M) && ds.all fun e => within e (some 0) (some (L - 1))) := rfl
theorem isText_tup {O : DH} {ds : List D} {L M : Int} : isText O (.tup ds) L M = (decide ((ds.length : Int) ≤ M) && ds.all fun e => within e (some 0) (some (L - 1))) := rfl
theorem within_int {v l h : Int} : within (.int v) (some l) (some h) = (decide (l ≤ v) && decide (v ≤ h)) := rfl
theorem within_odd {d : D} (h : isInt d = false) (l u : Option Int) : within d l u = false := by cases d <;> first | rfl | cases h
theorem rd_law_text_right : ∀ ds O Q E, sd_right ds O Q E → t_law_text_right sd_is_text sd_draw sd_pick sd_law_bent sd_law_odd (ends Q E) (dstart N_law_text_right.length ds) O := by
  intro ds O Q E h
  unfold sd_right at h
  split at h
  · rename_i v
    obtain ⟨t, m, hv, hm, ht, q⟩ := h
    show t_law_text_right sd_is_text sd_draw sd_pick sd_law_bent sd_law_odd (ends Q E) [some (.ref v), none, none, none, none, none, none, none, none] O
    unfold t_law_text_right
    walk_at "dx"
    simp only [g_law_cupful_0, mx_law_cupful_0]
    refine ⟨sz5.mpr trivial, t, m, hv, hm, by omega, Nat.succ_pos _, (by decide : 5 < 1000000), fun x1 m1 hx1 hm1 => ?_⟩
    have e1 : ∃ L : Nat, x1 = .int L ∧ 1 ≤ L ∧ L ≤ 9 := by
      simp only [List.mem_cons, List.not_mem_nil, or_false] at hx1
      rcases hx1 with rfl | rfl | rfl | rfl | rfl
      · exact ⟨2, rfl, by omega, by omega⟩
      · exact ⟨3, rfl, by omega, by omega⟩
      · exact ⟨4, rfl, by omega, by omega⟩
      · exact ⟨1, rfl, by omega, by omega⟩
      · exact ⟨9, rfl, by omega, by omega⟩
    obtain ⟨L, rfl, l1, l2⟩ := e1
    clear hx1
    refine ⟨sz4.mpr trivial, t + 1, m1, updO_same, hm1, by omega, Nat.succ_pos _, (by decide : 4 < 1000000), fun x2 m2 hx2 hm2 => ?_⟩
    have e2 : ∃ M : Nat, x2 = .int M ∧ M ≤ 60 := by
      simp only [List.mem_cons, List.not_mem_nil, or_false] at hx2
      rcases hx2 with rfl | rfl | rfl | rfl
      · exact ⟨3, rfl, by omega⟩
      · exact ⟨0, rfl, by omega⟩
      · exact ⟨60, rfl, by omega⟩
      · exact ⟨12, rfl, by omega⟩
    obtain ⟨M, rfl, l3⟩ := e2
    clear hx2
    walk_at "dx"
    walk_at "df"
    refine ⟨t + 2, m2, updO_same, hm2.mono (by omega), by omega, Nat.succ_pos _, (by decide : 4 < 1000000), fun x3 m3 hx3 hm3 => ?_⟩
    have e3 : ∃ S : Nat, x3 = .int S ∧ S ≤ 61 := by
      simp only [List.mem_cons, List.not_mem_nil, or_false] at hx3
      rcases hx3 with rfl | rfl | rfl | rfl
      · exact ⟨M, rfl, by omega⟩
      · exact ⟨M + 1, rfl, by omega⟩
      · refine ⟨M - 1, ?_, by omega⟩
        congr 1
        split <;> omega
      · exact ⟨0, rfl, by omega⟩
    obtain ⟨S, rfl, l4⟩ := e3
    clear hx3
    walk_at "df"
    refine ⟨by omega, by omega, fun a ha => ?_⟩
    refine lc_draw (v := v) (m0 := m3) (fun _ _ => trivial) (fun k m => VesM (t + 3 + k) m) (fun _ d => within d (some 0) (some ((L : Int) - 1)) = true ∧ leaf d = true) (by rw [intsFrom_len]; exact small_line (by omega)) ha updO_same (hm3.mono (by omega)) (fun k d hk O2 m R hO2 im r => ?_) fun ys m4 hl hp hm4 => ?_
    · have hkn : k < S := (intsFrom_get hk).1
      walk_at "dx"
      simp only [g_law_draught_0, mx_law_draught_0]
      refine ⟨t + 3 + k, m, hO2, im, by omega, by omega, by omega, fun r2 m3 a2 b2 hm3 => ?_⟩
      exact r _ m3 ⟨by rw [within_int, Bool.and_eq_true, decide_eq_true_eq, decide_eq_true_eq]; omega, rfl⟩ (hm3.mono (by omega))
    · rw [intsFrom_len] at hl hm4
      have hpi := all_get hp
      have hl2 : ys.length = S := hl
      have hps : ∀ O, Row O (.lst ys) := plain_row (plain_lst (by omega) fun d hd => (hpi d hd).2)
      have hpt : ∀ O, Row O (.tup ys) := plain_row (plain_tup (by omega) fun d hd => (hpi d hd).2)
      have hys : (ys.all fun e => within e (some 0) (some ((L : Int) - 1))) = true := List.all_eq_true.mpr fun d hd => (hpi d hd).1
      walk_at "dx"
      simp only [fTuple, items, g_is_text_0, mx_is_text_0, g_is_text_1, mx_is_text_1, g_is_text_2, mx_is_text_2, sd_is_text, hps, hpt, true_and, isText_lst, isText_tup, hys, Bool.and_true, hl2, sz3, fLe, fI0]
      have c1 : decide ((S : Int) ≤ 1000) = true := decide_eq_true (by omega)
      simp only [c1]
      show fRepr _ [.lst (List.map D.bl [decide ((S : Int) ≤ M), decide ((S : Int) ≤ M), true])] _
      refine fRepr_bls (by simp) ?_
      show fRepr _ [.lst (List.map D.bl [decide ((S : Int) ≤ M), decide ((S : Int) ≤ M), true])] _
      refine fRepr_bls (by simp) ?_
      rw [fNe_same]
      have e10 : (10 : Int) ^ Int.toNat 20 = 100000000000000000000 := by decide
      have p20 : CPow 10 20 := ⟨by decide, by decide, by decide⟩
      refine ⟨p20, ?_⟩
      simp only [g_law_odd_0, mx_law_odd_0, updO_upd, e10]
      refine ⟨t + 70, m4, updO_same, hm4.mono (by omega), by omega, fun odd m5 ho1 ho2 hm5 => ?_⟩
      refine ⟨t + 71, m5, updO_same, hm5.mono (by omega), by omega, Nat.succ_pos _, (by decide : 4 < 1000000), fun x m6 hx hm6 => ?_⟩
      have e4 : leaf x = true ∧ within x (some 0) (some ((L : Int) - 1)) = false := by
        simp only [List.mem_cons, List.not_mem_nil, or_false] at hx
        rcases hx with rfl | rfl | rfl | rfl
        · exact ⟨rfl, by rw [within_int, decide_eq_false (by omega : ¬ ((L : Int) ≤ L - 1)), Bool.and_false]⟩
        · exact ⟨rfl, rfl⟩
        · exact ⟨rfl, by rw [within_int, decide_eq_false (by omega : ¬ ((100000000000000000000 : Int) ≤ L - 1)), Bool.and_false]⟩
        · exact ⟨plain_leaf ho1, within_odd ho2 _ _⟩
      obtain ⟨x1, x2⟩ := e4
      simp only [g_law_bent_0, mx_law_bent_0]
      refine ⟨t + 72, m6, updO_same, hm6.mono (by omega), by omega, by omega, fun xs zs m7 hx hz hxl hzl hm7 => ?_⟩
      have hall : ∀ d ∈ xs ++ [x] ++ zs, leaf d = true := fun d hd => by
        rcases List.mem_append.mp hd with hd | hd
        · rcases List.mem_append.mp hd with hd | hd
          · exact (hpi d (hx d hd)).2
          · rw [List.mem_singleton.mp hd]; exact x1
        · exact (hpi d (hz d hd)).2
      have hsl : (xs ++ [x] ++ zs).length ≤ 100000 := by rw [List.length_append, List.length_append, List.length_singleton]; omega
      have hss : ∀ O, Row O (.lst (xs ++ [x] ++ zs)) := plain_row (plain_lst hsl hall)
      have hst : ∀ O, Row O (.tup (xs ++ [x] ++ zs)) := plain_row (plain_tup hsl hall)
      have hno : ((xs ++ [x] ++ zs).all fun e => within e (some 0) (some ((L : Int) - 1))) = false := all_mid x2
      generalize xs ++ [x] ++ zs = sp at hss hst hno
      simp only [hss, hst, true_and, isText_lst, hno, Bool.and_false, updO_upd]
      show fRepr _ [.lst (List.map D.bl [false, false])] _
      refine fRepr_bls (by simp) ?_
      show fRepr _ [.lst (List.map D.bl [false, false])] _
      refine fRepr_bls (by simp) ?_
      rw [fNe_same]
      simp only [g_law_draught_0, mx_law_draught_0]
      refine ⟨t + 80, m7, updO_same, hm7.mono (by omega), by omega, by omega, by omega, fun r2 m8 a2 b2 hm8 => ?_⟩
      refine ⟨by decide, by decide, small_line (by decide), t + 81, m8, updO_same, hm8.mono (by omega), by omega, Nat.succ_pos _, (by decide : 3 < 1000000), fun x m9 hx hm9 => ?_⟩
      have e5 : ∃ n : Nat, x = .int n ∧ 999 ≤ n ∧ n ≤ 1001 := by
        simp only [List.mem_cons, List.not_mem_nil, or_false] at hx
        rcases hx with rfl | rfl | rfl
        · exact ⟨1001, rfl, by omega, by omega⟩
        · exact ⟨1000, rfl, by omega, by omega⟩
        · exact ⟨999, rfl, by omega, by omega⟩
      obtain ⟨n, rfl, n1, n2⟩ := e5
      have ecut : cutD (repD (Int.toNat 1001) [.int r2]) none (some (n : Int)) = List.replicate n (.int r2) := by
        rw [cut_take, repD_one, List.take_replicate, Nat.min_eq_left (by exact n2)]
      have hrall : ((List.replicate n (D.int r2)).all fun e => within e (some 0) (some ((L : Int) - 1))) = true := List.all_eq_true.mpr fun d hd => by
        rw [(List.mem_replicate.mp hd).2, within_int, decide_eq_true a2, decide_eq_true (by omega)]
        rfl
      have hrl : ∀ O, Row O (.lst (List.replicate n (.int r2))) := plain_row (plain_lst (by rw [List.length_replicate]; omega) fun d hd => by rw [(List.mem_replicate.mp hd).2]; rfl)
      have hrt : ∀ O, Row O (.tup (List.replicate n (.int r2))) := plain_row (plain_tup (by rw [List.length_replicate]; omega) fun d hd => by rw [(List.mem_replicate.mp hd).2]; rfl)
      have hstr : ∀ (O : DH) z, Row O (.str z) := fun O z => plain_row (d := .str z) rfl O
      have hnon : ∀ O, Row O .non := fun O => plain_row (d := .non) rfl O
      have k1 : ∀ O, isText O (.str (Str.ofString "0")) L 1000 = false := fun _ => rfl
      have k2 : ∀ O, isText O .non L 1000 = false := fun _ => rfl
      simp only [ecut, hrl, hrt, hstr, hnon, true_and, hrall, Bool.and_true, List.length_replicate, k1, k2]
      have w1 : decide ((n : Int) ≤ 1000) = decide ((n : Int) < 1001) := by congr 1; exact propext ⟨fun h => by omega, fun h => by omega⟩
      have w2 : decide ((n : Int) ≤ 1001) = true := decide_eq_true (by omega)
      have w3 : decide ((n : Int) ≤ 998) = false := decide_eq_false (by omega)
      rw [w1, w2, w3]
      show fRepr _ [.lst (List.map D.bl [decide ((n : Int) < 1001), true, false, false, false])] _
      refine fRepr_bls (by simp) ?_
      show fRepr _ [.lst (List.map D.bl [decide ((n : Int) < 1001), true, false, false, false])] _
      refine fRepr_bls (by simp) ?_
      rw [fEq_same, updO_upd, updO_upd]
      exact ⟨_, Sub.refl _, q m9 (hm9.mono (by omega))⟩
  · exact h.elim
end Lw
namespace Lw
open PySem L2 Dx
local macro_rules | `(tactic| walk_at "dx") => `(tactic| simp only [dVar, dC, dBin, dUn, dTst, dTru, dAnd, dOr, dNot, dAndV, dOrV, dNotV, dIf, dChain, dNil, dCons, dTup, dLst, dLstM, dDic0, dDic1, dNoP, dPart, dSl, dCB, dIsi, dIsiT, dNext, dSeq, dRet, dRetF, dRetN, dDrop, dIfS, dBreak, dCont, dAsg, gN, gTu, gCn, gNl, dPar, dSetIx, dApp, dISeq, dIRng1, dIRng2, dFor, dCall, dLc, dLcM, dYes, dwipe, ends,
  List.getElem?_cons_zero, List.getElem?_cons_succ, List.getElem?_nil, List.set_cons_zero, List.set_cons_succ, List.length_cons, List.length_nil, Nat.zero_add, Nat.reduceAdd, true_and])
local macro_rules | `(tactic| walk_at "df") => `(tactic| simp only [fAdd, fSub, fMul, fMod, fFd, fPow, fNeg, fLt, fLe, fGt, fGe, fI, fI0, fU, fIsN, fNotN, fIx, fSl, fLen, fInt, fAbs, fMax2, fMin2, fStr, fTuple, fList, fAll, fAny, fSum, fEq_ii, fNe_ii, fEq_ss, fNe_ss, fEq_bb, fNe_bb, atI_0, atI_1, atI_2, ixN_0, ixN_1, ixN_2, Option.bind_some, Option.map_some, shown?, D.py, D.pys, updO_upd, kindD_non, kindD_bl, kindD_int, kindD_str, kindD_lst, kindD_tup, kindD_dic, items_lst, items_tup, items_wl, itemsL_lst, itemsL_wl, trkD_lst, items_ref, itemsL_ref, trkD_ref, kindD_ref, lenD_lst, lenD_tup, lenD_wl, lenD_dic, lenD_ref, lenD_str, truth_non, truth_bl, truth_int, truth_str, truth_dic, truth_lst, truth_tup, truth_wl, truth_ref, keyD_int, keyD_str, noneD_non, noneD_bl, noneD_int, noneD_str, noneD_lst, noneD_tup, noneD_dic, noneD_ref, sz0, sz1, sz2, sz3, sz4, sz5, sz6, sz7, sz8, sz9, sz10, sz11, sz12, sz13, sz14, sz15, sz16, sz17, sz18, sz19, sz20, sz21, sz22, sz23, sz24, sz25, sz26, sz27, sz28, sz29, sz30, true_and, and_true])
theorem rd_law : ∀ ds O Q E, sd_law ds O Q E → t_law sd_right sd_right sd_is_list sd_is_integer sd_own_integer sd_is_within sd_pick sd_draw sd_law_value sd_vessel (ends Q E) (dstart N_law.length ds) O := by
  intro ds O Q E h
  unfold sd_law at h
  split at h
  · obtain ⟨ns, rfl, hl, hb, rfl, q⟩ := h
    show t_law sd_right sd_right sd_is_list sd_is_integer sd_own_integer sd_is_within sd_pick sd_draw sd_law_value sd_vessel (ends Q E) [some (.wl (ns.map .int)), none, none, none, none, none, none, none, none, none] noO
    unfold t_law
    generalize hD : dAndV _ _ = DUE
    walk_at "dx"
    simp only [g_law_vessel_0, mx_law_vessel_0]
    refine ⟨ns, rfl, by omega, fun v m hv hm => ?_⟩
    walk_at "dx"
    refine ⟨by decide, by decide, ?_⟩
    refine forGo_ind (fun k ρ O => (∃ x2 x3 x4 x5 x6 x7 x8 x9, ρ = [some (.wl (ns.map .int)), some (.ref v), x2, x3, x4, x5, x6, x7, x8, x9]) ∧ ∃ m, VesM (1000 * k) m ∧ O = updO noO v m) (fun _ _ _ _ => trivial) ⟨⟨_, _, _, _, _, _, _, _, rfl⟩, m, hm.mono (by omega), rfl⟩ (fun k d ρ O N hk hkn j n => ?_) fun ρ O j => ?_
    · obtain ⟨⟨x2, x3, x4, x5, x6, x7, x8, x9, rfl⟩, m, hm, rfl⟩ := j
      rw [intsFrom_len] at hkn
      have hkn : k < 4 := hkn
      walk_at "dx"
      simp only [g_law_value_0, mx_law_value_0, g_law_draught_0, mx_law_draught_0, g_law_cupful_0, mx_law_cupful_0]
      refine ⟨_, m, updO_same, hm, by omega, fun value m1 hv1 hm1 => ?_⟩
      refine ⟨_, m1, updO_same, hm1, by omega, by omega, by omega, fun r1 m2 a1 b1 hm2 => ?_⟩
      walk_at "df"
      refine ⟨_, m2, updO_same, hm2, by omega, by omega, by omega, fun r2 m3 a2 b2 hm3 => ?_⟩
      walk_at "dx"
      refine ⟨_, m3, updO_same, hm3, by omega, Nat.succ_pos _, (by decide : 6 < 1000000), fun num m4 hx4 hm4 => ?_⟩
      walk_at "df"
      refine ⟨_, m4, updO_same, hm4, by omega, Nat.succ_pos _, (by decide : 2 < 1000000), fun least m5 hx5 hm5 => ?_⟩
      refine ⟨_, m5, updO_same, hm5, by omega, Nat.succ_pos _, (by decide : 2 < 1000000), fun most m6 hx6 hm6 => ?_⟩
      have e7 : ∃ l, bnd least = some l := by
        simp only [List.mem_cons, List.not_mem_nil, or_false] at hx5
        rcases hx5 with rfl | rfl <;> exact ⟨_, rfl⟩
      have e8 : ∃ h, bnd most = some h := by
        simp only [List.mem_cons, List.not_mem_nil, or_false] at hx6
        rcases hx6 with rfl | rfl <;> exact ⟨_, rfl⟩
      have e6 : leaf num = true := by
        simp only [List.mem_cons, List.not_mem_nil, or_false] at hx4
        rcases hx4 with rfl | rfl | rfl | rfl | rfl | rfl
        · exact plain_leaf hv1
        all_goals rfl
      clear hx4 hx5 hx6
      obtain ⟨l, e7⟩ := e7
      obtain ⟨h, e8⟩ := e8
      have due : ∀ d O Qc Ec, Qc (.bl (within num l h)) O → DUE [some (.wl (ns.map .int)), some (.ref v), some d, some value, some (.int (r1 - 4)), some (.int (r2 - 4)), some num, some least, some most, x9] O Qc Ec := by
        intro d O Qc Ec q
        rw [← hD]
        walk_at "dx"
        simp only [g_law_own_integer_0, mx_law_own_integer_0, sd_own_integer]
        refine ⟨leaf_kd e6 O, ?_⟩
        cases num with
        | int i =>
          cases least <;> simp [bnd] at e7 <;> cases most <;> simp [bnd] at e8 <;> subst e7 <;> subst e8 <;> simp only [isInt] <;> walk_at "df"
          · exact q
          · rename_i j
            simpa [within] using q
          · rename_i j
            cases hd : decide (j ≤ i) with
            | true => simpa [within, hd] using q
            | false => simpa [within, hd] using q
          · rename_i j j2
            cases hd : decide (j ≤ i) with
            | true => simpa [within, hd] using q
            | false => simpa [within, hd] using q
        | _ => exact q
      refine due _ _ _ _ ?_
      have e6k := fun O => leaf_kd e6 O
      have hvk := fun O => leaf_kd (plain_leaf hv1) O
      simp only [g_is_integer_1, mx_is_integer_1, sd_is_integer, g_law_own_integer_0, mx_law_own_integer_0, sd_own_integer]
      refine ⟨e6k _, fRepr_bl ⟨e6k _, fRepr_bl ?_⟩⟩
      rw [fNe_same]
      simp only [updO_upd, g_is_within_1, mx_is_within_1, sd_is_within]
      refine ⟨l, h, e7, e8, e6k _, fRepr_bl (fRepr_bl ?_)⟩
      rw [fNe_same]
      simp only [g_is_list_0, mx_is_list_0, g_is_list_1, mx_is_list_1, sd_is_list, items_lst, items_tup, Option.isSome_some]
      obtain ⟨k2, hk2⟩ := Option.isSome_iff_exists.mp (hvk (updO noO v m6))
      refine ⟨hvk _, rfl, rfl, ?_⟩
      rw [hk2, ← seq_items hk2]
      show fRepr _ [.lst (List.map D.bl [anyT k2 ["list", "tuple"], true, true])] _
      refine fRepr_bls (by simp) ?_
      show fRepr _ [.lst (List.map D.bl [anyT k2 ["list", "tuple"], true, true])] _
      refine fRepr_bls (by simp) ?_
      rw [fNe_same]
      simp only [g_law_row_right_0, mx_law_row_right_0, g_law_text_right_0, mx_law_text_right_0]
      refine ⟨_, m6, updO_same, hm6, by omega, fun m7 hm7 => ?_⟩
      refine ⟨_, m7, updO_same, hm7, by omega, fun m8 hm8 => ?_⟩
      simp only [updO_upd]
      exact n _ _ ⟨⟨_, _, _, _, _, _, _, _, rfl⟩, m8, hm8.mono (by omega), rfl⟩
    · exact ⟨O, Sub.refl O, q O⟩
  · exact h.elim
end Lw
namespace Lw
open PySem L2 Dx
def h_is_integer : He.DefD := ⟨("is_integer", none), "is_integer", "is_integer", defArgs s_is_integer, defBody s_is_integer, defScope s_is_integer, [], []⟩
def h_is_within : He.DefD := ⟨("is_within", none), "is_within", "is_within", defArgs s_is_within, defBody s_is_within, defScope s_is_within, [], []⟩
def h_is_list : He.DefD := ⟨("is_list", none), "is_list", "is_list", defArgs s_is_list, defBody s_is_list, defScope s_is_list, [], []⟩
def h_is_row : He.DefD := ⟨("is_row", none), "is_row", "is_row", defArgs s_is_row, defBody s_is_row, defScope s_is_row, [], []⟩
def h_is_text : He.DefD := ⟨("is_text", none), "is_text", "is_text", defArgs s_is_text, defBody s_is_text, defScope s_is_text, [.int 1000], []⟩
def h_law_vessel : He.DefD := ⟨("_law_vessel", none), "_law_vessel", "_law_vessel", defArgs s_law_vessel, defBody s_law_vessel, defScope s_law_vessel, [], []⟩
def h_law_draught : He.DefD := ⟨("_law_draught", none), "_law_draught", "_law_draught", defArgs s_law_draught, defBody s_law_draught, defScope s_law_draught, [], []⟩
def h_law_cupful : He.DefD := ⟨("_law_cupful", none), "_law_cupful", "_law_cupful", defArgs s_law_cupful, defBody s_law_cupful, defScope s_law_cupful, [], []⟩
def h_law_value : He.DefD := ⟨("_law_value", none), "_law_value", "_law_value", defArgs s_law_value, defBody s_law_value, defScope s_law_value, [], []⟩
def h_law_own_integer : He.DefD := ⟨("_law_own_integer", none), "_law_own_integer", "_law_own_integer", defArgs s_law_own_integer, defBody s_law_own_integer, defScope s_law_own_integer, [], []⟩
def h_law_odd : He.DefD := ⟨("_law_odd", none), "_law_odd", "_law_odd", defArgs s_law_odd, defBody s_law_odd, defScope s_law_odd, [], []⟩
def h_law_bent : He.DefD := ⟨("_law_bent", none), "_law_bent", "_law_bent", defArgs s_law_bent, defBody s_law_bent, defScope s_law_bent, [], []⟩
def h_law_row_right : He.DefD := ⟨("_law_row_right", none), "_law_row_right", "_law_row_right", defArgs s_law_row_right, defBody s_law_row_right, defScope s_law_row_right, [], []⟩
def h_law_text_right : He.DefD := ⟨("_law_text_right", none), "_law_text_right", "_law_text_right", defArgs s_law_text_right, defBody s_law_text_right, defScope s_law_text_right, [], []⟩
def h_law : He.DefD := ⟨("law", none), "law", "law", defArgs s_law, defBody s_law, defScope s_law, [], []⟩
def fn : List He.DefD := [h_is_integer, h_is_within, h_is_list, h_is_row, h_is_text, h_law_vessel, h_law_draught, h_law_cupful, h_law_value, h_law_own_integer, h_law_odd, h_law_bent, h_law_row_right, h_law_text_right, h_law]
def fa : List He.Fa := [.glo "is_integer", .glo "is_within", .glo "is_list", .glo "is_row", .glo "is_text", .glo "_law_vessel", .glo "_law_draught", .glo "_law_cupful", .glo "_law_value", .glo "_law_own_integer", .glo "_law_odd", .glo "_law_bent", .glo "_law_row_right", .glo "_law_text_right", .glo "law", .free "abs", .free "all", .free "bool", .free "int", .free "isinstance", .free "len", .free "list", .free "max", .free "range", .free "repr", .free "str", .free "tuple"]
def loose0 : List Str := ["MOST_TEXT", "is_integer", "is_within", "is_list", "is_row", "is_text", "_law_vessel", "_law_draught", "_law_cupful", "_law_value", "_law_own_integer", "_law_odd", "_law_bent", "_law_row_right", "_law_text_right"]
def loose : List Str := loose0
abbrev R : PySem.W.OpenRow := PySem.W.OpenLaw.row PySem.Challenge.rw_everyprompt_k01_plain_values_told
abbrev hk : PySem.W.Hook := He.hookD 4 fa fn
def ob (s : PySem.W.SharedT) : He.AlD := He.obsDG 4 fa fn (HandSHeadRun.getT s)
theorem ob_eq (s : PySem.W.SharedT) : ob s = hk.obs s.abs := He.obsDG_eq (HandSHeadRun.getT_eq s)
theorem run (w : World) : HandSHeadRun.RunEq R (PySem.W.view R.prog [17]) hk ob 920 loose w := by
  intro os
  kernel_rfl
theorem facts {w : World} {K : PySem.W.Frag} {h : Heap} {mg : Str → Option Value} {f : Addr} (X : K.In h) (G : h.Ns mainGlobals mg) (hfa : mg ("law" : Str) = some (.ref f)) (c : He.SaysD fa fn K) :
    ∃ fd : FuncData, (∀ (s : Shared) (v : Value), BindsTo s fd ⟨[v], []⟩ [("script", v)]) ∧ ∀ base : Heap, K.In base → base.Ns mainGlobals mg → FnG (PySem.Challenge.rw_everyprompt_k01_plain_values_told).prog w K mg base 5 f fd ["script"] sd_law := by
  obtain ⟨fd_is_integer, F_is_integer⟩ := c.def_ 0 (d := h_is_integer) rfl
  obtain ⟨fd_is_within, F_is_within⟩ := c.def_ 1 (d := h_is_within) rfl
  obtain ⟨fd_is_list, F_is_list⟩ := c.def_ 2 (d := h_is_list) rfl
  obtain ⟨fd_is_row, F_is_row⟩ := c.def_ 3 (d := h_is_row) rfl
  obtain ⟨fd_is_text, F_is_text⟩ := c.def_ 4 (d := h_is_text) rfl
  obtain ⟨fd_law_vessel, F_law_vessel⟩ := c.def_ 5 (d := h_law_vessel) rfl
  obtain ⟨fd_law_draught, F_law_draught⟩ := c.def_ 6 (d := h_law_draught) rfl
  obtain ⟨fd_law_cupful, F_law_cupful⟩ := c.def_ 7 (d := h_law_cupful) rfl
  obtain ⟨fd_law_value, F_law_value⟩ := c.def_ 8 (d := h_law_value) rfl
  obtain ⟨fd_law_own_integer, F_law_own_integer⟩ := c.def_ 9 (d := h_law_own_integer) rfl
  obtain ⟨fd_law_odd, F_law_odd⟩ := c.def_ 10 (d := h_law_odd) rfl
  obtain ⟨fd_law_bent, F_law_bent⟩ := c.def_ 11 (d := h_law_bent) rfl
  obtain ⟨fd_law_row_right, F_law_row_right⟩ := c.def_ 12 (d := h_law_row_right) rfl
  obtain ⟨fd_law_text_right, F_law_text_right⟩ := c.def_ 13 (d := h_law_text_right) rfl
  obtain ⟨fd_law, F_law⟩ := c.def_ 14 (d := h_law) rfl
  have T : Facts K mg := ⟨He.free_ok X G (c.fact 15 (f := .free "abs") rfl), He.free_ok X G (c.fact 16 (f := .free "all") rfl), He.free_ok X G (c.fact 17 (f := .free "bool") rfl), He.free_ok X G (c.fact 18 (f := .free "int") rfl), He.free_ok X G (c.fact 19 (f := .free "isinstance") rfl), He.free_ok X G (c.fact 20 (f := .free "len") rfl), He.free_ok X G (c.fact 21 (f := .free "list") rfl), He.free_ok X G (c.fact 22 (f := .free "max") rfl), He.free_ok X G (c.fact 23 (f := .free "range") rfl), He.free_ok X G (c.fact 24 (f := .free "repr") rfl), He.free_ok X G (c.fact 25 (f := .free "str") rfl), He.free_ok X G (c.fact 26 (f := .free "tuple") rfl)⟩
  have m_is_integer := He.glo_ok X G (c.fact 0 (f := .glo "is_integer") rfl)
  have m_is_within := He.glo_ok X G (c.fact 1 (f := .glo "is_within") rfl)
  have m_is_list := He.glo_ok X G (c.fact 2 (f := .glo "is_list") rfl)
  have m_is_row := He.glo_ok X G (c.fact 3 (f := .glo "is_row") rfl)
  have m_is_text := He.glo_ok X G (c.fact 4 (f := .glo "is_text") rfl)
  have m_law_vessel := He.glo_ok X G (c.fact 5 (f := .glo "_law_vessel") rfl)
  have m_law_draught := He.glo_ok X G (c.fact 6 (f := .glo "_law_draught") rfl)
  have m_law_cupful := He.glo_ok X G (c.fact 7 (f := .glo "_law_cupful") rfl)
  have m_law_value := He.glo_ok X G (c.fact 8 (f := .glo "_law_value") rfl)
  have m_law_own_integer := He.glo_ok X G (c.fact 9 (f := .glo "_law_own_integer") rfl)
  have m_law_odd := He.glo_ok X G (c.fact 10 (f := .glo "_law_odd") rfl)
  have m_law_bent := He.glo_ok X G (c.fact 11 (f := .glo "_law_bent") rfl)
  have m_law_row_right := He.glo_ok X G (c.fact 12 (f := .glo "_law_row_right") rfl)
  have m_law_text_right := He.glo_ok X G (c.fact 13 (f := .glo "_law_text_right") rfl)
  have m_law := He.glo_ok X G (c.fact 14 (f := .glo "law") rfl)
  have e := hfa.symm.trans m_law
  cases e
  have b := FunD.bindsA (ps := ["script"]) F_law fun _ _ _ _ _ _ us hl => match us, hl with | [_], _ => rfl
  refine ⟨fd_law, fun s v => b s [v] rfl, fun base _ _ => ?_⟩
  have G_is_integer : FnG (PySem.Challenge.rw_everyprompt_k01_plain_values_told).prog w K mg base 1 _ fd_is_integer ["value"] sd_is_integer := FnG.of (P := (PySem.Challenge.rw_everyprompt_k01_plain_values_told).prog) (w := w) (base := base) F_is_integer S_is_integer (der_is_integer T) (fun ds O Q E h => by unfold sd_is_integer at h; split at h <;> first | rfl | exact h.elim) rd_is_integer
  have G_is_list : FnG (PySem.Challenge.rw_everyprompt_k01_plain_values_told).prog w K mg base 1 _ fd_is_list ["value"] sd_is_list := FnG.of (P := (PySem.Challenge.rw_everyprompt_k01_plain_values_told).prog) (w := w) (base := base) F_is_list S_is_list (der_is_list T) (fun ds O Q E h => by unfold sd_is_list at h; split at h <;> first | rfl | exact h.elim) rd_is_list
  have G_law_vessel : FnG (PySem.Challenge.rw_everyprompt_k01_plain_values_told).prog w K mg base 1 _ fd_law_vessel ["script"] sd_vessel := FnG.of (P := (PySem.Challenge.rw_everyprompt_k01_plain_values_told).prog) (w := w) (base := base) F_law_vessel S_law_vessel (der_law_vessel T) (fun ds O Q E h => by unfold sd_vessel at h; split at h <;> first | rfl | exact h.elim) (rd_vessel 60)
  have G_law_draught : FnG (PySem.Challenge.rw_everyprompt_k01_plain_values_told).prog w K mg base 1 _ fd_law_draught ["vessel", "many"] sd_draw := FnG.of (P := (PySem.Challenge.rw_everyprompt_k01_plain_values_told).prog) (w := w) (base := base) F_law_draught S_law_draught (der_law_draught T) (fun ds O Q E h => by unfold sd_draw at h; split at h <;> first | rfl | exact h.elim) (rd_draw 2147483563 41081 2633 2147483549 6151 90121 41081 2147483587 (by decide) (by decide) (by decide) (by decide) (by decide) (by decide) (by decide) (by decide))
  have G_law_own_integer : FnG (PySem.Challenge.rw_everyprompt_k01_plain_values_told).prog w K mg base 1 _ fd_law_own_integer ["value"] sd_own_integer := FnG.of (P := (PySem.Challenge.rw_everyprompt_k01_plain_values_told).prog) (w := w) (base := base) F_law_own_integer S_law_own_integer (der_law_own_integer T) (fun ds O Q E h => by unfold sd_own_integer at h; split at h <;> first | rfl | exact h.elim) rd_law_own_integer
  have G_is_within : FnG (PySem.Challenge.rw_everyprompt_k01_plain_values_told).prog w K mg base 2 _ fd_is_within ["value", "least", "most"] sd_is_within := FnG.of (P := (PySem.Challenge.rw_everyprompt_k01_plain_values_told).prog) (w := w) (base := base) F_is_within S_is_within (der_is_within T F_is_integer m_is_integer G_is_integer) (fun ds O Q E h => by unfold sd_is_within at h; split at h <;> first | rfl | exact h.elim) rd_is_within
  have G_is_row : FnG (PySem.Challenge.rw_everyprompt_k01_plain_values_told).prog w K mg base 2 _ fd_is_row ["value", "length"] sd_is_row := FnG.of (P := (PySem.Challenge.rw_everyprompt_k01_plain_values_told).prog) (w := w) (base := base) F_is_row S_is_row (der_is_row T F_is_list m_is_list G_is_list F_is_integer m_is_integer G_is_integer) (fun ds O Q E h => by unfold sd_is_row at h; split at h <;> first | rfl | exact h.elim) rd_is_row
  have G_law_cupful : FnG (PySem.Challenge.rw_everyprompt_k01_plain_values_told).prog w K mg base 2 _ fd_law_cupful ["vessel", "some"] sd_pick := FnG.of (P := (PySem.Challenge.rw_everyprompt_k01_plain_values_told).prog) (w := w) (base := base) F_law_cupful S_law_cupful (der_law_cupful T F_law_draught m_law_draught G_law_draught) (fun ds O Q E h => by unfold sd_pick at h; split at h <;> first | rfl | exact h.elim) (rd_pick g_law_draught_0 fun _ _ => rfl)
  have G_law_bent : FnG (PySem.Challenge.rw_everyprompt_k01_plain_values_told).prog w K mg base 2 _ fd_law_bent ["vessel", "row", "odd"] sd_law_bent := FnG.of (P := (PySem.Challenge.rw_everyprompt_k01_plain_values_told).prog) (w := w) (base := base) F_law_bent S_law_bent (der_law_bent T F_law_draught m_law_draught G_law_draught) (fun ds O Q E h => by unfold sd_law_bent at h; split at h <;> first | rfl | exact h.elim) rd_law_bent
  have G_is_text : FnG (PySem.Challenge.rw_everyprompt_k01_plain_values_told).prog w K mg base 3 _ fd_is_text ["value", "letters", "most"] sd_is_text := FnG.of (P := (PySem.Challenge.rw_everyprompt_k01_plain_values_told).prog) (w := w) (base := base) F_is_text S_is_text (der_is_text T F_is_list m_is_list G_is_list F_is_within m_is_within G_is_within) (fun ds O Q E h => by unfold sd_is_text at h; split at h <;> first | rfl | exact h.elim) rd_is_text
  have G_law_value : FnG (PySem.Challenge.rw_everyprompt_k01_plain_values_told).prog w K mg base 3 _ fd_law_value ["vessel"] sd_law_value := FnG.of (P := (PySem.Challenge.rw_everyprompt_k01_plain_values_told).prog) (w := w) (base := base) F_law_value S_law_value (der_law_value T F_law_cupful m_law_cupful G_law_cupful F_law_draught m_law_draught G_law_draught) (fun ds O Q E h => by unfold sd_law_value at h; split at h <;> first | rfl | exact h.elim) rd_law_value
  have G_law_odd : FnG (PySem.Challenge.rw_everyprompt_k01_plain_values_told).prog w K mg base 3 _ fd_law_odd ["vessel"] sd_law_odd := FnG.of (P := (PySem.Challenge.rw_everyprompt_k01_plain_values_told).prog) (w := w) (base := base) F_law_odd S_law_odd (der_law_odd T F_law_cupful m_law_cupful G_law_cupful) (fun ds O Q E h => by unfold sd_law_odd at h; split at h <;> first | rfl | exact h.elim) rd_law_odd
  have G_law_row_right : FnG (PySem.Challenge.rw_everyprompt_k01_plain_values_told).prog w K mg base 4 _ fd_law_row_right ["vessel"] sd_right := FnG.of (P := (PySem.Challenge.rw_everyprompt_k01_plain_values_told).prog) (w := w) (base := base) F_law_row_right S_law_row_right (der_law_row_right T F_is_row m_is_row G_is_row F_law_bent m_law_bent G_law_bent F_law_odd m_law_odd G_law_odd F_law_cupful m_law_cupful G_law_cupful F_law_draught m_law_draught G_law_draught) (fun ds O Q E h => by unfold sd_right at h; split at h <;> first | rfl | exact h.elim) rd_law_row_right
  have G_law_text_right : FnG (PySem.Challenge.rw_everyprompt_k01_plain_values_told).prog w K mg base 4 _ fd_law_text_right ["vessel"] sd_right := FnG.of (P := (PySem.Challenge.rw_everyprompt_k01_plain_values_told).prog) (w := w) (base := base) F_law_text_right S_law_text_right (der_law_text_right T F_is_text m_is_text G_is_text F_law_draught m_law_draught G_law_draught F_law_cupful m_law_cupful G_law_cupful F_law_bent m_law_bent G_law_bent F_law_odd m_law_odd G_law_odd) (fun ds O Q E h => by unfold sd_right at h; split at h <;> first | rfl | exact h.elim) rd_law_text_right
  exact FnG.of (P := (PySem.Challenge.rw_everyprompt_k01_plain_values_told).prog) (w := w) (base := base) F_law S_law (der_law T F_law_row_right m_law_row_right G_law_row_right F_law_text_right m_law_text_right G_law_text_right F_is_list m_is_list G_is_list F_is_integer m_is_integer G_is_integer F_law_own_integer m_law_own_integer G_law_own_integer F_is_within m_is_within G_is_within F_law_cupful m_law_cupful G_law_cupful F_law_draught m_law_draught G_law_draught F_law_value m_law_value G_law_value F_law_vessel m_law_vessel G_law_vessel) (fun ds O Q E h => by unfold sd_law at h; split at h <;> first | rfl | exact h.elim) rd_law
end Lw
open PySem PySem.W PySem.Calls PyProof.Rows
theorem PySem.Challenge.cw_everyprompt_k01_plain_values_told_holds : PySem.Challenge.rw_everyprompt_k01_plain_values_told.Holds := by
  w_on; o_law
  refine HandSHeadRun.head_any (r := OpenLaw.row PySem.Challenge.rw_everyprompt_k01_plain_values_told) (q := view (OpenLaw.row PySem.Challenge.rw_everyprompt_k01_plain_values_told).prog [17]) (H := Lw.hk) (ob := Lw.ob) (M := 920) (loose := Lw.loose) (d := HandSHeadRun.topDef (OpenLaw.row PySem.Challenge.rw_everyprompt_k01_plain_values_told).prog 17) (kwd := []) Lw.ob_eq
    (by kernel_rfl) (fun s => by kernel_rfl) Lw.run (by kernel_rfl) (by kernel_rfl) (by kernel_rfl) (by rfl) (by first | assumption | decide +kernel) (by decide +kernel) ⟨rfl, rfl, rfl, rfl, rfl, by decide +kernel⟩ ?hw ?hc
  case hw => w_witness2
  case hc =>
    refine Dx.dwalk (l := PySem.Challenge.rw_everyprompt_k01_plain_values_told) (n := 63) (k := 5) (x := "script") rfl (by decide) (by kernel_rfl) ⟨rfl, by decide, by decide⟩ ?F
    intro w mg fa h Y G hmg0
    obtain ⟨K, KX, c⟩ := Y
    have hmg : mg ("law" : PySem.Str) = some (.ref fa) := by
      have e : (HandSHeadRun.topDef (OpenLaw.row PySem.Challenge.rw_everyprompt_k01_plain_values_told).prog 17).name = ("law" : PySem.Str) := by kernel_rfl
      rw [← e]
      exact hmg0
    obtain ⟨fd, hb, hF⟩ := Lw.facts (w := w) KX G hmg c
    exact ⟨K, fd, Dx.sd_law, KX, hb, Dx.law_sp, hF⟩
