import PyProof.Rows.All
import HandS.ForExc
import HandS.Comp
import HandS.Iter
import HandS.Walk
import HandS.Dict
import HandS.Text
import HandS.IsInst
import HandS.Defaults
import HandS.CallSlots
import HandS.TupAny
import HandS.ExcCtx
import HandS.HotCalls
import HandS.TryOnly
import HandS.TupMul
import HandS.TupLe
import HandS.Wide
import KE.GoesEnum
import KE.KExcSuper
import KE.KExcInit
import KE.KExcPX
import HandS.ExcSuper
import HandS.ExcField
import HandS.ExcInit
import HandS.WideMore
import HandS.More
import HandS.Words
import HandS.Head0
import HandS.Head1
import HandS.Head2
import HandS.HeadEnd
import HandS.HeadHook1
import HandS.HeadHook2
import PySem.Challenge.RW_keepnothing_k12_whole_rows_picked_out
set_option Elab.async false
set_option linter.all false
set_option maxRecDepth 100000
set_option maxHeartbeats 4000000
/-! Kn: values without a heap, and what code does with them: readings of the layer by plain data -/
namespace Kn
open PySem PySem.Spec L2

/-- plain values: trees without addresses -/
inductive D where
  | non | bl (b : Bool) | int (i : Int) | str (s : Str)
  | tup (xs : List D) | lst (xs : List D)
  | obj (c : Str) (fs : List (Str × D))
  | exc (c : Str) (fs : List (Str × D))
  | box
  | scr (ns : List Int)
  | ty (n : String)
  deriving Inhabited

/-- which addresses will not change any more (Z), which the drawing boxes hold (B), the boxes themselves (rt) -/
structure Rg where
  Z : Addr → Prop
  B : Addr → Prop
  rt : Addr → Prop

/-- what is kept of the boxes -/
structure BoxKit where
  BI : Rg → Hp → Prop
  frame : ∀ {R R' : Rg} {H H' : Hp}, BI R H → (∀ a, R.B a ↔ R'.B a) → (∀ a, R.rt a ↔ R'.rt a) → (∀ a, R.B a → H' a = H a) → BI R' H'
  dom : ∀ {R : Rg} {H : Hp} {a : Addr}, BI R H → R.B a → ∃ o, H a = some o

/-- a tuple, a list of the written part -/
def KTup (K : PySem.W.Frag) (a : Addr) (vs : List V) : Prop :=
  ∃ (o : Obj) (its : Array Value) (n : Nat), K.lookup a = some o ∧ o.cls = .type "tuple" ∧ o.data = .seq its n ∧ its.size ≤ sizeLine ∧ Vals vs its.toList
def KLst (K : PySem.W.Frag) (a : Addr) (vs : List V) : Prop :=
  ∃ (o : Obj) (its : Array Value) (n : Nat), K.lookup a = some o ∧ o.cls = .type "list" ∧ o.dict = none ∧ o.data = .seq its n ∧ its.size ≤ sizeLine ∧ Vals vs its.toList
/-- a tuple, a list that stays -/
def TAt (K : PySem.W.Frag) (R : Rg) (H : Hp) (a : Addr) (vs : List V) : Prop := (H a = some (.tup vs) ∧ R.Z a) ∨ KTup K a vs
def LAt (R : Rg) (H : Hp) (a : Addr) (vs : List V) : Prop := H a = some (.lst vs) ∧ R.Z a
/-- the script -/
def SAt (K : PySem.W.Frag) (R : Rg) (H : Hp) (a : Addr) (ns : List Int) : Prop := (Rd H a (.lst (ns.map V.int)) ∧ R.Z a) ∨ KLst K a (ns.map V.int)
theorem TAt.sq {K : PySem.W.Frag} {R : Rg} {H : Hp} {a : Addr} {vs : List V} (h : TAt K R H a vs) : SqT K H a vs := h.elim (fun z => .inl (.inl z.1)) .inr
theorem LAt.sq {K : PySem.W.Frag} {R : Rg} {H : Hp} {a : Addr} {vs : List V} (h : LAt R H a vs) : SqL K H a vs := .inl (.inl h.1)
theorem SAt.sq {K : PySem.W.Frag} {R : Rg} {H : Hp} {a : Addr} {ns : List Int} (h : SAt K R H a ns) : SqL K H a (ns.map V.int) := h.elim (fun z => .inl z.1) .inr

mutual
/-- the value v stands for d, for good -/
def Rep (K : PySem.W.Frag) (R : Rg) (H : Hp) : V → D → Prop
  | v, .non => v = .non
  | v, .bl b => v = .bl b
  | v, .int i => v = .int i
  | v, .str s => v = .str s
  | v, .tup ds => ∃ a vs, v = .ref a ∧ TAt K R H a vs ∧ RepL K R H vs ds
  | v, .lst ds => ∃ a vs, v = .ref a ∧ LAt R H a vs ∧ RepL K R H vs ds
  | v, .obj _ _ => False
  | v, .exc _ _ => False
  | v, .box => ∃ r, v = .ref r ∧ R.rt r
  | v, .scr ns => ∃ a, v = .ref a ∧ SAt K R H a ns
  | v, .ty n => v = .ty n
def RepL (K : PySem.W.Frag) (R : Rg) (H : Hp) : List V → List D → Prop
  | vs, [] => vs = []
  | vs, d :: ds => ∃ v r, vs = v :: r ∧ Rep K R H v d ∧ RepL K R H r ds
end

/-- the region holds -/
structure Rok (κ : BoxKit) (R : Rg) (H : Hp) : Prop where
  zin : ∀ a, R.Z a → ∃ o, H a = some o
  zb : ∀ a, R.Z a → ¬ R.B a
  bi : κ.BI R H
theorem Rok.bin {κ : BoxKit} {R : Rg} {H : Hp} (h : Rok κ R H) {a : Addr} (hb : R.B a) : ∃ o, H a = some o := κ.dom h.bi hb

/-- what may have become of a heap -/
structure Ext (R : Rg) (H : Hp) (R' : Rg) (H' : Hp) : Prop where
  keep : ∀ a o, H a = some o → ¬ R.B a → H' a = some o
  dom : ∀ a o, H a = some o → ∃ o', H' a = some o'
  zs : ∀ a, R.Z a → R'.Z a
  zn : ∀ a, R'.Z a → R.Z a ∨ H a = none
  bn : ∀ a, R'.B a → R.B a ∨ H a = none
  rts : ∀ r, R.rt r → R'.rt r
theorem Ext.refl (R : Rg) (H : Hp) : Ext R H R H := ⟨fun _ _ h _ => h, fun _ o h => ⟨o, h⟩, fun _ h => h, fun _ h => .inl h, fun _ h => .inl h, fun _ h => h⟩
theorem Ext.back {R R' : Rg} {H H' : Hp} (x : Ext R H R' H') {a : Addr} (h : H' a = none) : H a = none := by
  cases e : H a with
  | none => rfl
  | some o =>
    obtain ⟨o', e'⟩ := x.dom a o e
    rw [h] at e'
    cases e'
theorem Ext.trans {R1 R2 R3 : Rg} {H1 H2 H3 : Hp} (x : Ext R1 H1 R2 H2) (y : Ext R2 H2 R3 H3) : Ext R1 H1 R3 H3 := by
  refine ⟨fun a o h nb => ?_, fun a o h => ?_, fun a h => y.zs a (x.zs a h), fun a h => ?_, fun a h => ?_, fun r h => y.rts r (x.rts r h)⟩
  · refine y.keep a o (x.keep a o h nb) fun hb => ?_
    rcases x.bn a hb with z | z
    · exact nb z
    · rw [h] at z
      cases z
  · obtain ⟨o', e⟩ := x.dom a o h
    exact y.dom a o' e
  · rcases y.zn a h with z | z
    · exact x.zn a z
    · exact .inr (x.back z)
  · rcases y.bn a h with z | z
    · exact x.bn a z
    · exact .inr (x.back z)

/-- what stays, stays -/
structure Sta (R : Rg) (H : Hp) (R' : Rg) (H' : Hp) : Prop where
  zk : ∀ a o, R.Z a → H a = some o → H' a = some o
  zs : ∀ a, R.Z a → R'.Z a
  rts : ∀ r, R.rt r → R'.rt r
theorem Sta.refl (R : Rg) (H : Hp) : Sta R H R H := ⟨fun _ _ _ h => h, fun _ h => h, fun _ h => h⟩
theorem Sta.trans {R1 R2 R3 : Rg} {H1 H2 H3 : Hp} (x : Sta R1 H1 R2 H2) (y : Sta R2 H2 R3 H3) : Sta R1 H1 R3 H3 :=
  ⟨fun a o z h => y.zk a o (x.zs a z) (x.zk a o z h), fun a z => y.zs a (x.zs a z), fun r h => y.rts r (x.rts r h)⟩
theorem Ext.sta {κ : BoxKit} {R R' : Rg} {H H' : Hp} (x : Ext R H R' H') (ok : Rok κ R H) : Sta R H R' H' := ⟨fun a o z h => x.keep a o h (ok.zb a z), x.zs, x.rts⟩

section
variable {K : PySem.W.Frag} {κ : BoxKit} {R R' : Rg} {H H' : Hp}
theorem rd_keep {a : Addr} {u : HO} (h : Rd H a u) (e : ∀ o, H a = some o → H' a = some o) : Rd H' a u := by
  rcases h with h | ⟨o, h⟩
  · exact .inl (e _ h)
  · exact .inr ⟨o, e _ h⟩
/-- what stays, stays -/
theorem TAt.sta (x : Sta R H R' H') {a : Addr} {vs : List V} (h : TAt K R H a vs) : TAt K R' H' a vs := by
  rcases h with ⟨h, z⟩ | h
  · exact .inl ⟨x.zk a _ z h, x.zs a z⟩
  · exact .inr h
theorem LAt.sta (x : Sta R H R' H') {a : Addr} {vs : List V} (h : LAt R H a vs) : LAt R' H' a vs := ⟨x.zk a _ h.2 h.1, x.zs a h.2⟩
theorem SAt.sta (x : Sta R H R' H') {a : Addr} {ns : List Int} (h : SAt K R H a ns) : SAt K R' H' a ns := by
  rcases h with ⟨h, z⟩ | h
  · exact .inl ⟨rd_keep h fun o e => x.zk a o z e, x.zs a z⟩
  · exact .inr h
mutual
theorem Rep.sta (x : Sta R H R' H') : ∀ {d : D} {v : V}, Rep K R H v d → Rep K R' H' v d
  | .non, _, h => h
  | .bl _, _, h => h
  | .int _, _, h => h
  | .str _, _, h => h
  | .ty _, _, h => h
  | .tup _, _, h => by
    unfold Rep at h ⊢
    obtain ⟨a, vs, e, t, r⟩ := h
    exact ⟨a, vs, e, t.sta x, RepL.sta x r⟩
  | .lst _, _, h => by
    unfold Rep at h ⊢
    obtain ⟨a, vs, e, t, r⟩ := h
    exact ⟨a, vs, e, t.sta x, RepL.sta x r⟩
  | .obj _ _, _, h => by
    unfold Rep at h
    exact h.elim
  | .exc _ _, _, h => by
    unfold Rep at h
    exact h.elim
  | .box, _, h => by
    unfold Rep at h ⊢
    obtain ⟨r, e, t⟩ := h
    exact ⟨r, e, x.rts r t⟩
  | .scr _, _, h => by
    unfold Rep at h ⊢
    obtain ⟨a, e, t⟩ := h
    exact ⟨a, e, t.sta x⟩
theorem RepL.sta (x : Sta R H R' H') : ∀ {ds : List D} {vs : List V}, RepL K R H vs ds → RepL K R' H' vs ds
  | [], _, h => h
  | _ :: _, _, h => by
    unfold RepL at h ⊢
    obtain ⟨v, r, e, h1, h2⟩ := h
    exact ⟨v, r, e, Rep.sta x h1, RepL.sta x h2⟩
end
theorem Rep.ext (ok : Rok κ R H) (x : Ext R H R' H') {d : D} {v : V} (h : Rep K R H v d) : Rep K R' H' v d := h.sta (x.sta ok)
theorem RepL.ext (ok : Rok κ R H) (x : Ext R H R' H') {ds : List D} {vs : List V} (h : RepL K R H vs ds) : RepL K R' H' vs ds := h.sta (x.sta ok)
mutual
/-- more stays -/
theorem Rep.mono (hz : ∀ a, R.Z a → R'.Z a) (ht : ∀ a, R.rt a → R'.rt a) : ∀ {d : D} {v : V}, Rep K R H v d → Rep K R' H v d
  | .non, _, h => h
  | .bl _, _, h => h
  | .int _, _, h => h
  | .str _, _, h => h
  | .ty _, _, h => h
  | .tup _, _, h => by
    unfold Rep at h ⊢
    obtain ⟨a, vs, e, t, r⟩ := h
    exact ⟨a, vs, e, t.elim (fun z => .inl ⟨z.1, hz a z.2⟩) .inr, RepL.mono hz ht r⟩
  | .lst _, _, h => by
    unfold Rep at h ⊢
    obtain ⟨a, vs, e, t, r⟩ := h
    exact ⟨a, vs, e, ⟨t.1, hz a t.2⟩, RepL.mono hz ht r⟩
  | .obj _ _, _, h => by
    unfold Rep at h
    exact h.elim
  | .exc _ _, _, h => by
    unfold Rep at h
    exact h.elim
  | .box, _, h => by
    unfold Rep at h ⊢
    obtain ⟨r, e, t⟩ := h
    exact ⟨r, e, ht r t⟩
  | .scr _, _, h => by
    unfold Rep at h ⊢
    obtain ⟨a, e, t⟩ := h
    exact ⟨a, e, t.elim (fun z => .inl ⟨z.1, hz a z.2⟩) .inr⟩
theorem RepL.mono (hz : ∀ a, R.Z a → R'.Z a) (ht : ∀ a, R.rt a → R'.rt a) : ∀ {ds : List D} {vs : List V}, RepL K R H vs ds → RepL K R' H vs ds
  | [], _, h => h
  | _ :: _, _, h => by
    unfold RepL at h ⊢
    obtain ⟨v, r, e, h1, h2⟩ := h
    exact ⟨v, r, e, Rep.mono hz ht h1, RepL.mono hz ht h2⟩
end
theorem RepL.nil_iff {vs : List V} : RepL K R H vs [] ↔ vs = [] := by
  unfold RepL
  exact Iff.rfl
theorem RepL.cons {v : V} {vs : List V} {d : D} {ds : List D} (h : Rep K R H v d) (hs : RepL K R H vs ds) : RepL K R H (v :: vs) (d :: ds) := by
  unfold RepL
  exact ⟨v, vs, rfl, h, hs⟩
theorem RepL.nil : RepL K R H [] [] := by
  unfold RepL
  rfl
theorem RepL.cases {d : D} {ds : List D} {vs : List V} (h : RepL K R H vs (d :: ds)) : ∃ v r, vs = v :: r ∧ Rep K R H v d ∧ RepL K R H r ds := by
  unfold RepL at h
  exact h
theorem RepL.len : ∀ {ds : List D} {vs : List V}, RepL K R H vs ds → vs.length = ds.length
  | [], vs, h => by
    rw [RepL.nil_iff.mp h]
    rfl
  | _ :: ds, vs, h => by
    obtain ⟨v, r, rfl, _, h2⟩ := h.cases
    simp [RepL.len h2]
theorem RepL.append : ∀ {ds es : List D} {vs us : List V}, RepL K R H vs ds → RepL K R H us es → RepL K R H (vs ++ us) (ds ++ es)
  | [], _, vs, _, h, h' => by
    rw [RepL.nil_iff.mp h]
    exact h'
  | _ :: ds, _, vs, _, h, h' => by
    obtain ⟨v, r, rfl, h1, h2⟩ := h.cases
    exact .cons h1 (RepL.append h2 h')
theorem RepL.get : ∀ {ds : List D} {vs : List V} {i : Nat} {d : D}, RepL K R H vs ds → ds[i]? = some d → ∃ v, vs[i]? = some v ∧ Rep K R H v d
  | [], _, _, _, _, e => by simp at e
  | _ :: ds, vs, 0, d, h, e => by
    obtain ⟨v, r, rfl, h1, h2⟩ := h.cases
    simp at e
    subst e
    exact ⟨v, rfl, h1⟩
  | _ :: ds, vs, i + 1, d, h, e => by
    obtain ⟨v, r, rfl, h1, h2⟩ := h.cases
    obtain ⟨u, e1, e2⟩ := RepL.get (i := i) h2 (by simpa using e)
    exact ⟨u, by simpa using e1, e2⟩
theorem RepL.take : ∀ {ds : List D} {vs : List V} (n : Nat), RepL K R H vs ds → RepL K R H (vs.take n) (ds.take n)
  | _, _, 0, _ => by simpa using RepL.nil
  | [], vs, n + 1, h => by
    rw [RepL.nil_iff.mp h]
    exact RepL.nil
  | _ :: ds, vs, n + 1, h => by
    obtain ⟨v, r, rfl, h1, h2⟩ := h.cases
    simpa using RepL.cons h1 (RepL.take n h2)
theorem RepL.drop : ∀ {ds : List D} {vs : List V} (n : Nat), RepL K R H vs ds → RepL K R H (vs.drop n) (ds.drop n)
  | _, _, 0, h => by simpa using h
  | [], vs, n + 1, h => by
    rw [RepL.nil_iff.mp h]
    exact RepL.nil
  | _ :: ds, vs, n + 1, h => by
    obtain ⟨v, r, rfl, h1, h2⟩ := h.cases
    simpa using RepL.drop n h2
theorem RepL.set : ∀ {ds : List D} {vs : List V} {v : V} {d : D} (n : Nat), RepL K R H vs ds → Rep K R H v d → RepL K R H (vs.set n v) (ds.set n d)
  | [], vs, _, _, n, h, _ => by
    rw [RepL.nil_iff.mp h]
    simpa using RepL.nil
  | _ :: ds, vs, v, d, 0, h, hd => by
    obtain ⟨u, r, rfl, h1, h2⟩ := h.cases
    simpa using RepL.cons hd h2
  | _ :: ds, vs, v, d, n + 1, h, hd => by
    obtain ⟨u, r, rfl, h1, h2⟩ := h.cases
    simpa using RepL.cons h1 (RepL.set n h2 hd)
theorem RepL.concat {ds : List D} {vs : List V} {v : V} {d : D} (h : RepL K R H vs ds) (hd : Rep K R H v d) : RepL K R H (vs ++ [v]) (ds ++ [d]) := h.append (.cons hd .nil)
theorem RepL.flat {n : Nat} {d : D} {v : V} (h : Rep K R H v d) : RepL K R H (List.replicate n v) (List.replicate n d) := by
  induction n with
  | zero => exact RepL.nil
  | succ n ih => exact .cons h ih
end

/-! ### slots, kinds -/
inductive Slot where
  | un | val (d : D) | own (d : D) | exc (a : Addr) (dd : Option Addr) (fs : List (Str × D))
  deriving Inhabited
/-- for good; new and nobody else's; a slot's own -/
inductive Kd where
  | frz | own | bor
abbrev Sls := List Slot

/-- the object at a is d, and may still change -/
def OwnAt (K : PySem.W.Frag) (R : Rg) (H : Hp) (a : Addr) (d : D) : Prop := ∃ vs ds, d = .lst ds ∧ H a = some (.lst vs) ∧ RepL K R H vs ds
theorem OwnAt.there {K : PySem.W.Frag} {R : Rg} {H : Hp} {a : Addr} {d : D} (h : OwnAt K R H a d) : ∃ o, H a = some o := by
  obtain ⟨vs, ds, _, e, _⟩ := h
  exact ⟨_, e⟩
theorem OwnAt.ext {K : PySem.W.Frag} {κ : BoxKit} {R R' : Rg} {H H' : Hp} (ok : Rok κ R H) (x : Ext R H R' H') {a : Addr} {d : D} (nb : ¬ R.B a) (h : OwnAt K R H a d) : OwnAt K R' H' a d := by
  obtain ⟨vs, ds, e, e1, r⟩ := h
  exact ⟨vs, ds, e, x.keep a _ e1 nb, r.ext ok x⟩

def RepF (K : PySem.W.Frag) (R : Rg) (H : Hp) (vs : List (Str × V)) (fs : List (Str × D)) : Prop := vs.map (·.1) = fs.map (·.1) ∧ RepL K R H (vs.map (·.2)) (fs.map (·.2))
/-- an exception's fields -/
def XAt (K : PySem.W.Frag) (R : Rg) (H : Hp) (fs : List (Str × D)) (dd : Option Addr) : Prop := (fs = [] ∧ dd = none) ∨ ∃ d vs, dd = some d ∧ H d = some (.xd vs) ∧ R.Z d ∧ RepF K R H vs fs
theorem XAt.sta {K : PySem.W.Frag} {R R' : Rg} {H H' : Hp} (x : Sta R H R' H') {fs : List (Str × D)} {dd : Option Addr} (h : XAt K R H fs dd) : XAt K R' H' fs dd := by
  rcases h with h | ⟨d, vs, e, e1, z, e2, e3⟩
  · exact .inl h
  · exact .inr ⟨d, vs, e, x.zk d _ z e1, x.zs d z, e2, e3.sta x⟩
theorem XAt.mono {K : PySem.W.Frag} {R R' : Rg} {H : Hp} (hz : ∀ a, R.Z a → R'.Z a) (ht : ∀ a, R.rt a → R'.rt a) {fs : List (Str × D)} {dd : Option Addr} (h : XAt K R H fs dd) : XAt K R' H fs dd := h.sta ⟨fun _ _ _ e => e, hz, ht⟩
/-- a frame's slots -/
structure RS (K : PySem.W.Frag) (κ : BoxKit) (R : Rg) (env : Sls) (σ : St) (H : Hp) : Prop where
  ok : Rok κ R H
  len : env.length = σ.length
  sl : ∀ (i : Nat) (d : D), env[i]? = some (.val d) → ∃ v, σ[i]? = some (some v) ∧ Rep K R H v d
  ow : ∀ (i : Nat) (d : D), env[i]? = some (.own d) → ∃ a, σ[i]? = some (some (.ref a)) ∧ ¬ R.Z a ∧ ¬ R.B a ∧ OwnAt K R H a d
  ne : ∀ (i j : Nat) (d e : D) (a : Addr), env[i]? = some (.own d) → env[j]? = some (.own e) → σ[i]? = some (some (.ref a)) → σ[j]? = some (some (.ref a)) → i = j
  xs : ∀ (i : Nat) (a : Addr) (dd : Option Addr) (fs : List (Str × D)), env[i]? = some (.exc a dd fs) → σ[i]? = some (some (.ref a)) ∧ XAt K R H fs dd
theorem RS.ext {K : PySem.W.Frag} {κ : BoxKit} {R R' : Rg} {env : Sls} {σ : St} {H H' : Hp} (r : RS K κ R env σ H) (x : Ext R H R' H') (ok : Rok κ R' H') : RS K κ R' env σ H' := by
  refine ⟨ok, r.len, fun i d e => ?_, fun i d e => ?_, r.ne, fun i a dd fs e => ⟨(r.xs i a dd fs e).1, (r.xs i a dd fs e).2.sta (x.sta r.ok)⟩⟩
  · obtain ⟨v, e1, e2⟩ := r.sl i d e
    exact ⟨v, e1, e2.ext r.ok x⟩
  · obtain ⟨a, e1, nz, nb, o⟩ := r.ow i d e
    obtain ⟨ob, ho⟩ := o.there
    refine ⟨a, e1, fun z => ?_, fun z => ?_, o.ext r.ok x nb⟩
    · rcases x.zn a z with z | z
      · exact nz z
      · rw [ho] at z
        cases z
    · rcases x.bn a z with z | z
      · exact nb z
      · rw [ho] at z
        cases z

/-- the value v is d, of this kind; H₀: the heap ahead -/
def RepK (K : PySem.W.Frag) (R : Rg) (env : Sls) (σ : St) (H₀ H : Hp) (v : V) (d : D) : Kd → Prop
  | .frz => Rep K R H v d
  | .own => ∃ a, v = .ref a ∧ H₀ a = none ∧ ¬ R.Z a ∧ ¬ R.B a ∧ OwnAt K R H a d
  | .bor => ∃ (a : Addr) (i : Nat), v = .ref a ∧ env[i]? = some (.own d) ∧ σ[i]? = some (some (.ref a)) ∧ ¬ R.Z a ∧ ¬ R.B a ∧ OwnAt K R H a d
theorem RepK.ext {K : PySem.W.Frag} {κ : BoxKit} {R R' : Rg} {env : Sls} {σ : St} {H₀ H H' : Hp} {v : V} {d : D} {k : Kd} (ok : Rok κ R H) (x : Ext R H R' H') (h : RepK K R env σ H₀ H v d k) : RepK K R' env σ H₀ H' v d k := by
  have out : ∀ {a}, ¬ R.Z a → ¬ R.B a → OwnAt K R H a d → ¬ R'.Z a ∧ ¬ R'.B a := fun {a} nz nb o => by
    obtain ⟨ob, ho⟩ := o.there
    refine ⟨fun z => ?_, fun z => ?_⟩
    · rcases x.zn a z with z | z
      · exact nz z
      · rw [ho] at z
        cases z
    · rcases x.bn a z with z | z
      · exact nb z
      · rw [ho] at z
        cases z
  cases k with
  | frz => exact Rep.ext ok x h
  | own =>
    obtain ⟨a, e, n, nz, nb, o⟩ := h
    obtain ⟨q1, q2⟩ := out nz nb o
    exact ⟨a, e, n, q1, q2, o.ext ok x nb⟩
  | bor =>
    obtain ⟨a, i, e, e1, e2, nz, nb, o⟩ := h
    obtain ⟨q1, q2⟩ := out nz nb o
    exact ⟨a, i, e, e1, e2, q1, q2, o.ext ok x nb⟩

/-- what is to be seen of a value now -/
inductive Vw (K : PySem.W.Frag) (R : Rg) (H : Hp) : V → D → Prop
  | rep {v : V} {d : D} : Rep K R H v d → Vw K R H v d
  | lst {a : Addr} {vs : List V} {ds : List D} : H a = some (.lst vs) → RepL K R H vs ds → Vw K R H (.ref a) (.lst ds)
theorem RepK.vw {K : PySem.W.Frag} {R : Rg} {env : Sls} {σ : St} {H₀ H : Hp} {v : V} {d : D} {k : Kd} (h : RepK K R env σ H₀ H v d k) : Vw K R H v d := by
  cases k with
  | frz => exact .rep h
  | own =>
    obtain ⟨a, rfl, _, _, _, vs, ds, rfl, e, r⟩ := h
    exact .lst e r
  | bor =>
    obtain ⟨a, i, rfl, _, _, _, _, vs, ds, rfl, e, r⟩ := h
    exact .lst e r
end Kn
namespace Kn
open PySem PySem.Spec L2

abbrev QD := D → Kd → Prop
abbrev XD := Str → List (Str × D) → Prop
abbrev WE := Sls → QD → XD → Prop
abbrev WB := Sls → (Bool → Prop) → XD → Prop
abbrev WA := Sls → (List (D × Kd) → Prop) → XD → Prop
/-- what a def is worth: arguments, the answer (new: nobody else's), the exception -/
abbrev PSp := List D → QD → XD → Prop

/-- an exception: of the module's class c, its attributes fs -/
def RepX (K : PySem.W.Frag) (mg : Str → Option Value) (R : Rg) (H : Hp) (c : Str) (fs : List (Str × D)) (cls : Value) (dd : Option Addr) : Prop :=
  ∃ C, mg c = some (.ref C) ∧ cls = .ref C ∧ XAt K R H fs dd

section
variable (X : Cx) (κ : BoxKit) (W : WX)
/-- the wish about exceptions, from σ at R H -/
def XOk (σ : St) (R : Rg) (H : Hp) (Ed : XD) : Prop := ∀ (c : Str) (fs : List (Str × D)) (cls : Value) (dd : Option Addr) (R' : Rg) (H' : Hp), Ext R H R' H' → Rok κ R' H' → RepX X.K X.mg R' H' c fs cls dd → Ed c fs → W cls dd σ H'
def QOk (env : Sls) (σ : St) (R : Rg) (H : Hp) (Qd : QD) (Q : VK) : Prop := ∀ (d : D) (k : Kd) (v : V) (R' : Rg) (H' : Hp), Ext R H R' H' → Rok κ R' H' → RepK X.K R' env σ H H' v d k → Qd d k → Q v H'
def BOk (σ : St) (R : Rg) (H : Hp) (Qd : Bool → Prop) (Q : Bool → Hp → Prop) : Prop := ∀ (b : Bool) (R' : Rg) (H' : Hp), Ext R H R' H' → Rok κ R' H' → Qd b → Q b H'
/-- several values -/
inductive RepA (K : PySem.W.Frag) (R : Rg) (env : Sls) (σ : St) (H₀ H : Hp) : List V → List (D × Kd) → Prop
  | nil : RepA K R env σ H₀ H [] []
  | cons {v : V} {vs : List V} {p : D × Kd} {ps : List (D × Kd)} : RepK K R env σ H₀ H v p.1 p.2 → (p.2 = .own → ∀ (j : Nat) (q : D × Kd), ps[j]? = some q → q.2 = .own → vs[j]? ≠ some v) → RepA K R env σ H₀ H vs ps → RepA K R env σ H₀ H (v :: vs) (p :: ps)
def AOk (env : Sls) (σ : St) (R : Rg) (H : Hp) (Qd : List (D × Kd) → Prop) (Q : List V → Hp → Prop) : Prop := ∀ (ds : List (D × Kd)) (vs : List V) (R' : Rg) (H' : Hp), Ext R H R' H' → Rok κ R' H' → RepA X.K R' env σ H H' vs ds → Qd ds → Q vs H'
def tE (w : WE) : TE := fun σ H Q => ∃ (R : Rg) (env : Sls) (Qd : QD) (Ed : XD), RS X.K κ R env σ H ∧ w env Qd Ed ∧ QOk X κ env σ R H Qd Q ∧ XOk X κ W σ R H Ed
def tT (w : WB) : TT := fun σ H Q => ∃ (R : Rg) (env : Sls) (Qd : Bool → Prop) (Ed : XD), RS X.K κ R env σ H ∧ w env Qd Ed ∧ BOk κ σ R H Qd Q ∧ XOk X κ W σ R H Ed
def tA (w : WA) : TA := fun σ H Q => ∃ (R : Rg) (env : Sls) (Qd : List (D × Kd) → Prop) (Ed : XD), RS X.K κ R env σ H ∧ w env Qd Ed ∧ AOk X κ env σ R H Qd Q ∧ XOk X κ W σ R H Ed
abbrev SE (e : Expr) (w : WE) : Prop := PE X e (tE X κ W w)
abbrev ST (e : Expr) (w : WB) : Prop := PT X e (tT X κ W w)
abbrev SW (e : Expr) (w : WB) : Prop := PW X e (tT X κ W w)
abbrev SA (es : List Expr) (w : WA) : Prop := PA X es (tA X κ W w)
end

section
variable {X : Cx} {κ : BoxKit} {W : WX}
theorem pe_of {e : Expr} {t t' : TE} (h : PE X e t) (i : ∀ σ H Q, t' σ H Q → t σ H Q) : PE X e t' := ⟨fun pins s σ H Q I hw => h.run pins s σ H Q I (i σ H Q hw)⟩
theorem pt_of {e : Expr} {t t' : TT} (h : PT X e t) (i : ∀ σ H Q, t' σ H Q → t σ H Q) : PT X e t' := ⟨fun pins s σ H Q I hw => h.run pins s σ H Q I (i σ H Q hw)⟩
theorem pw_of {e : Expr} {t t' : TT} (h : PW X e t) (i : ∀ σ H Q, t' σ H Q → t σ H Q) : PW X e t' := ⟨fun wh pins s σ H Q I hw => h.run wh pins s σ H Q I (i σ H Q hw)⟩
theorem pa_of {es : List Expr} {t t' : TA} (h : PA X es t) (i : ∀ σ H Q, t' σ H Q → t σ H Q) : PA X es t' := ⟨fun p pins s σ H Q I hw => h.run p pins s σ H Q I (i σ H Q hw)⟩

theorem XOk.ext {σ : St} {R R' : Rg} {H H' : Hp} {Ed : XD} (h : XOk X κ W σ R H Ed) (x : Ext R H R' H') : XOk X κ W σ R' H' Ed := fun c fs cls dd R2 H2 x2 ok r q => h c fs cls dd R2 H2 (x.trans x2) ok r q
theorem RepK.back {K : PySem.W.Frag} {R R1 R2 : Rg} {env : Sls} {σ : St} {H0 H1 H2 : Hp} {v : V} {d : D} {k : Kd} (x : Ext R H0 R1 H1) (h : RepK K R2 env σ H1 H2 v d k) : RepK K R2 env σ H0 H2 v d k := by
  cases k with
  | frz => exact h
  | own =>
    obtain ⟨a, e, n, r⟩ := h
    exact ⟨a, e, x.back n, r⟩
  | bor => exact h
theorem QOk.ext {env : Sls} {σ : St} {R R' : Rg} {H H' : Hp} {Qd : QD} {Q : VK} (h : QOk X κ env σ R H Qd Q) (x : Ext R H R' H') : QOk X κ env σ R' H' Qd Q := fun d k v R2 H2 x2 ok r q => h d k v R2 H2 (x.trans x2) ok (r.back x) q
theorem BOk.ext {σ : St} {R R' : Rg} {H H' : Hp} {Qd : Bool → Prop} {Q : Bool → Hp → Prop} (h : BOk κ σ R H Qd Q) (x : Ext R H R' H') : BOk κ σ R' H' Qd Q := fun b R2 H2 x2 ok q => h b R2 H2 (x.trans x2) ok q
theorem RepA.back {K : PySem.W.Frag} {R R1 R2 : Rg} {env : Sls} {σ : St} {H0 H1 H2 : Hp} (x : Ext R H0 R1 H1) {vs : List V} {ds : List (D × Kd)} (h : RepA K R2 env σ H1 H2 vs ds) : RepA K R2 env σ H0 H2 vs ds := by
  induction h with
  | nil => exact .nil
  | cons h o _ ih => exact .cons (h.back x) o ih
theorem RepA.ext {K : PySem.W.Frag} {R R' : Rg} {env : Sls} {σ : St} {H₀ H H' : Hp} {vs : List V} {ds : List (D × Kd)} (ok : Rok κ R H) (x : Ext R H R' H') (h : RepA K R env σ H₀ H vs ds) : RepA K R' env σ H₀ H' vs ds := by
  induction h with
  | nil => exact .nil
  | cons h o _ ih => exact .cons (h.ext ok x) o ih
/-- what is new was not there -/
theorem RepA.fresh {K : PySem.W.Frag} {R : Rg} {env : Sls} {σ : St} {H₀ H : Hp} {vs : List V} {ds : List (D × Kd)} (h : RepA K R env σ H₀ H vs ds) : ∀ (j : Nat) (q : D × Kd), ds[j]? = some q → q.2 = .own → ∃ a, vs[j]? = some (.ref a) ∧ H₀ a = none := by
  induction h with
  | nil => intro j q e; simp at e
  | @cons v vs p ps h o _ ih =>
    intro j q e k
    cases j with
    | zero =>
      simp at e
      subst e
      rw [k] at h
      obtain ⟨a, e, n, _⟩ := h
      exact ⟨a, by simp [e], n⟩
    | succ j => exact ih j q (by simpa using e) k
theorem AOk.ext {env : Sls} {σ : St} {R R' : Rg} {H H' : Hp} {Qd : List (D × Kd) → Prop} {Q : List V → Hp → Prop} (h : AOk X κ env σ R H Qd Q) (x : Ext R H R' H') : AOk X κ env σ R' H' Qd Q := fun d v R2 H2 x2 ok r q => h d v R2 H2 (x.trans x2) ok (r.back x) q
/-- an answer without a new object -/
theorem QOk.now {env : Sls} {σ : St} {R : Rg} {H : Hp} {Qd : QD} {Q : VK} (h : QOk X κ env σ R H Qd Q) (ok : Rok κ R H) {v : V} {d : D} (r : Rep X.K R H v d) (q : Qd d .frz) : Q v H := h d .frz v R H (Ext.refl R H) ok r q

/-! ### names, constants -/
def wVar (i : Nat) : WE := fun env Q _ => match env[i]? with
  | some (.val d) => Q d .frz
  | some (.own d) => Q d .bor
  | _ => False
@[simp] def wLit (d : D) : WE := fun _ Q _ => Q d .frz
theorem se_pv (i : Nat) {x : Str} {pos : Pos} (hN : X.N[i]? = some x := by rfl) (hv : Vis X.env.scope x := by first | exact Or.inl rfl | exact Or.inr (Or.inl rfl) | exact Or.inr (Or.inr rfl)) (hd : (x == ("__debug__" : Str)) = false := by decide)
    (hcd : (x == ("__classdict__" : Str)) = false := by decide) : SE X κ W (.Name x pos) (wVar i) := by
  refine pe_of (pe_var hN hv hd hcd) fun σ H Q ⟨R, env, Qd, Ed, rs, h, hq, _⟩ => ?_
  unfold wVar at h
  cases e : env[i]? with
  | none => rw [e] at h; exact h.elim
  | some s =>
    rw [e] at h
    cases s with
    | un => exact h.elim
    | exc a dd fs => exact h.elim
    | val d =>
      obtain ⟨v, e1, r⟩ := rs.sl i d e
      exact ⟨v, e1, hq.now rs.ok r h⟩
    | own d =>
      obtain ⟨a, e1, nz, nb, o⟩ := rs.ow i d e
      exact ⟨_, e1, hq d .bor _ R H (Ext.refl R H) rs.ok ⟨a, i, rfl, e, e1, nz, nb, o⟩ h⟩
theorem se_tC {e : Expr} {v : V} {d : D} (h : PE X e (tC v)) (r : ∀ R H, Rep X.K R H v d) : SE X κ W e (wLit d) :=
  pe_of h fun σ H Q ⟨R, env, Qd, Ed, rs, h, hq, _⟩ => hq.now rs.ok (r R H) h
theorem se_int {i j pos} : SE X κ W (.Constant (.int i) j pos) (wLit (.int i)) := se_tC pe_int fun R H => by unfold Rep; rfl
theorem se_bl {b j pos} : SE X κ W (.Constant (.bool b) j pos) (wLit (.bl b)) := se_tC pe_bl fun R H => by unfold Rep; rfl
theorem se_non {j pos} : SE X κ W (.Constant .none j pos) (wLit .non) := se_tC pe_non fun R H => by unfold Rep; rfl
theorem se_str {x j pos} : SE X κ W (.Constant (.str x) j pos) (wLit (.str x)) := se_tC pe_str fun R H => by unfold Rep; rfl
/-- a module's constant -/
theorem se_glob {x : Str} {v : V} {d : D} {u : Value} {pos : Pos} (hg : Gl X x) (hm : X.mg x = some u) (r : RelV v u) (rd : ∀ R H, Rep X.K R H v d) (hd : (x == ("__debug__" : Str)) = false := by decide) : SE X κ W (.Name x pos) (wLit d) :=
  se_tC (pe_glob hg hm r hd) rd

/-! ### operations on values -/
@[simp] def wUn (f : D → QD → Prop) (a : WE) : WE := fun env Q E => a env (fun x _ => f x Q) E
@[simp] def wBin (f : D → D → QD → Prop) (a b : WE) : WE := fun env Q E => a env (fun x _ => b env (fun y _ => f x y Q) E) E
def UnOk (X : Cx) (κ : BoxKit) (r : V → Hp → VK → Prop) (f : D → QD → Prop) : Prop := ∀ (R : Rg) (env : Sls) (σ : St) (H : Hp) (x : V) (d : D) (Qd : QD) (Q : VK), RS X.K κ R env σ H → Vw X.K R H x d → f d Qd → QOk X κ env σ R H Qd Q → r x H Q
def BinOk (X : Cx) (κ : BoxKit) (r : R2) (f : D → D → QD → Prop) : Prop := ∀ (R : Rg) (env : Sls) (σ : St) (H : Hp) (x y : V) (d e : D) (Qd : QD) (Q : VK), RS X.K κ R env σ H → Vw X.K R H x d → Vw X.K R H y e → f d e Qd → QOk X κ env σ R H Qd Q → r x y H Q
theorem un_imp {r : V → Hp → VK → Prop} {f : D → QD → Prop} (hf : UnOk X κ r f) {wa : WE} : ∀ σ H Q, tE X κ W (wUn f wa) σ H Q → tUn r (tE X κ W wa) σ H Q := by
  rintro σ H Q ⟨R, env, Qd, Ed, rs, h, hq, hx⟩
  exact ⟨R, env, _, Ed, rs, h, fun d k v R1 H1 x1 ok1 r1 h1 => hf R1 env σ H1 v d Qd Q (rs.ext x1 ok1) r1.vw h1 (hq.ext x1), hx⟩
theorem bin_imp {r : R2} {f : D → D → QD → Prop} (hf : BinOk X κ r f) {wa wb : WE} : ∀ σ H Q, tE X κ W (wBin f wa wb) σ H Q → tOp r (tE X κ W wa) (tE X κ W wb) σ H Q := by
  rintro σ H Q ⟨R, env, Qd, Ed, rs, h, hq, hx⟩
  refine ⟨R, env, _, Ed, rs, h, fun d k v R1 H1 x1 ok1 r1 h1 => ?_, hx⟩
  have rs1 := rs.ext x1 ok1
  refine ⟨R1, env, _, Ed, rs1, h1, fun e k2 u R2 H2 x2 ok2 r2 h2 => ?_, hx.ext x1⟩
  exact hf R2 env σ H2 v u d e Qd Q (rs1.ext x2 ok2) (r1.ext ok1 x2).vw r2.vw h2 ((hq.ext x1).ext x2)
variable {a b c : Expr} {wa wb wc : WE} {pos : Pos}
theorem se_op {op : Operator} {r : R2} {f : D → D → QD → Prop} (ho : OpR X (binaryOp op) r) (hf : BinOk X κ r f) (ha : SE X κ W a wa) (hb : SE X κ W b wb) : SE X κ W (.BinOp a op b pos) (wBin f wa wb) := pe_of (pe_op ho ha hb) (bin_imp hf)
theorem se_cmp {op : CmpOp} {r : R2} {f : D → D → QD → Prop} (ho : OpR X (compareOp op) r) (hf : BinOk X κ r f) (ha : SE X κ W a wa) (hb : SE X κ W b wb) (hm : behindInMarks op b = false) : SE X κ W (.Compare a [op] [b] pos) (wBin f wa wb) := pe_of (pe_cmpR ho ha hb hm) (bin_imp hf)
theorem se_un {op : UnaryOp} {r : V → Hp → VK → Prop} {f : D → QD → Prop} (ho : UnR X (unaryOp op) r) (hf : UnOk X κ r f) (ha : SE X κ W a wa) : SE X κ W (.UnaryOp op a pos) (wUn f wa) := pe_of (pe_un ho ha) (un_imp hf)
theorem se_ix {r : R2} {f : D → D → QD → Prop} (hr : IxR X r) (hf : BinOk X κ r f) (ha : SE X κ W a wa) (hb : SE X κ W b wb) (hs : PlainIx b) : SE X κ W (.Subscript a b pos) (wBin f wa wb) := pe_of (pe_ix hr ha hb hs) (bin_imp hf)

/-! ### tests -/
/-- a truth value -/
def asB (d : D) (Q : Bool → Prop) : Prop := ∃ b, d = .bl b ∧ Q b
@[simp] theorem asB_bl {b : Bool} {Q : Bool → Prop} : asB (.bl b) Q = Q b := by
  unfold asB
  exact propext ⟨fun ⟨c, e, q⟩ => by cases e; exact q, fun q => ⟨b, rfl, q⟩⟩
@[simp] def wTst (w : WE) : WB := fun env Q E => w env (fun d _ => asB d Q) E
theorem Vw.bl {K : PySem.W.Frag} {R : Rg} {H : Hp} {v : V} {b : Bool} (h : Vw K R H v (.bl b)) : v = .bl b := by
  cases h with
  | rep h => unfold Rep at h; exact h
theorem tst_imp {w : WE} {t : TE} (h : ∀ σ H Q, tE X κ W w σ H Q → t σ H Q) : ∀ σ H Q, tT X κ W (wTst w) σ H Q → tTest t σ H Q := by
  rintro σ H Q ⟨R, env, Qd, Ed, rs, hw, hq, hx⟩
  refine h σ H _ ⟨R, env, _, Ed, rs, hw, fun d k v R1 H1 x1 ok1 r1 q1 => ?_, hx⟩
  obtain ⟨b, rfl, q⟩ := q1
  exact ⟨b, r1.vw.bl, hq b R1 H1 x1 ok1 q⟩
theorem st_cmp {op : CmpOp} {r : R2} {f : D → D → QD → Prop} (ho : OpR X (compareOp op) r) (hf : BinOk X κ r f) (ha : SE X κ W a wa) (hb : SE X κ W b wb) (hm : behindInMarks op b = false) : ST X κ W (.Compare a [op] [b] pos) (wTst (wBin f wa wb)) :=
  pt_of (pt_cmpR ho ha hb hm) (tst_imp (bin_imp hf))
/-- a value's truth -/
def truth : D → (Bool → Prop) → Prop
  | .non, Q => Q false
  | .bl b, Q => Q b
  | .int i, Q => Q (i != 0)
  | .str s, Q => s.length ≤ sizeLine ∧ Q ((s.length : Int) != 0)
  | .tup ds, Q => Q (!ds.isEmpty)
  | .lst ds, Q => Q (!ds.isEmpty)
  | _, _ => False
@[simp] def wTru (w : WE) : WB := fun env Q E => w env (fun d _ => truth d Q) E
theorem RepL.emp {K : PySem.W.Frag} {R : Rg} {H : Hp} {vs : List V} {ds : List D} (h : RepL K R H vs ds) : vs.isEmpty = ds.isEmpty := by
  cases ds with
  | nil => rw [RepL.nil_iff.mp h] <;> rfl
  | cons d ds =>
    obtain ⟨v, r, rfl, _, _⟩ := h.cases
    rfl
theorem truth_ok {R : Rg} {H : Hp} {v : V} {d : D} {Qd : Bool → Prop} (h : Vw X.K R H v d) (q : truth d Qd) : ∃ k, TruV X.K v H k ∧ Qd k := by
  cases h with
  | lst e r => exact ⟨_, .inl ⟨_, SqL.of e, rfl⟩, by rw [r.emp]; exact q⟩
  | rep h =>
    cases d with
    | non => unfold Rep at h; subst h; exact ⟨_, rfl, q⟩
    | bl b => unfold Rep at h; subst h; exact ⟨_, rfl, q⟩
    | int i => unfold Rep at h; subst h; exact ⟨_, rfl, q⟩
    | str s => unfold Rep at h; subst h; exact ⟨_, ⟨q.1, rfl⟩, q.2⟩
    | tup ds =>
      unfold Rep at h
      obtain ⟨a, vs, rfl, t, r⟩ := h
      exact ⟨_, .inr (.inl ⟨_, t.sq, rfl⟩), by rw [r.emp]; exact q⟩
    | lst ds =>
      unfold Rep at h
      obtain ⟨a, vs, rfl, t, r⟩ := h
      exact ⟨_, .inl ⟨_, t.sq, rfl⟩, by rw [r.emp]; exact q⟩
    | _ => exact q.elim
theorem st_tru (ha : SE X κ W a wa) (he : ∀ whole, isTrue a X.env whole = (do let v ← whole; standAt a.pos; holding [v] (truthy v)) := by intro _; rfl) : ST X κ W a (wTru wa) := by
  refine pt_of (pt_truth ha he) fun σ H Q ⟨R, env, Qd, Ed, rs, h, hq, hx⟩ => ?_
  refine ⟨R, env, _, Ed, rs, h, fun d k v R1 H1 x1 ok1 r1 q1 => ?_, hx⟩
  obtain ⟨b, t, q⟩ := truth_ok r1.vw q1
  exact ⟨b, t, hq b R1 H1 x1 ok1 q⟩
@[simp] def wAndT (a b : WB) : WB := fun env Q E => a env (fun c => if c = true then b env Q E else Q false) E
@[simp] def wOrT (a b : WB) : WB := fun env Q E => a env (fun c => if c = true then Q true else b env Q E) E
@[simp] def wNotT (a : WB) : WB := fun env Q E => a env (fun c => Q (!c)) E
variable {va vb vc : WB} {rest : List Expr}
theorem sw_one {op} (ha : ST X κ W a va) : SW X κ W (.BoolOp op [a] pos) va := by
  cases op with
  | And => exact pw_and1 ha
  | Or => exact pw_or1 ha
theorem sw_and (ha : ST X κ W a va) (hb : SW X κ W (.BoolOp .And (b :: rest) pos) vb) : SW X κ W (.BoolOp .And (a :: b :: rest) pos) (wAndT va vb) := by
  refine pw_of (pw_and ha hb) fun σ H Q ⟨R, env, Qd, Ed, rs, h, hq, hx⟩ => ?_
  refine ⟨R, env, _, Ed, rs, h, fun k R1 H1 x1 ok1 q1 => ?_, hx⟩
  cases k with
  | true => exact iteT ⟨R1, env, Qd, Ed, rs.ext x1 ok1, by simpa using q1, hq.ext x1, hx.ext x1⟩
  | false => exact iteF (hq false R1 H1 x1 ok1 (by simpa using q1))
theorem sw_or (ha : ST X κ W a va) (hb : SW X κ W (.BoolOp .Or (b :: rest) pos) vb) : SW X κ W (.BoolOp .Or (a :: b :: rest) pos) (wOrT va vb) := by
  refine pw_of (pw_or ha hb) fun σ H Q ⟨R, env, Qd, Ed, rs, h, hq, hx⟩ => ?_
  refine ⟨R, env, _, Ed, rs, h, fun k R1 H1 x1 ok1 q1 => ?_, hx⟩
  cases k with
  | true => exact iteT (hq true R1 H1 x1 ok1 (by simpa using q1))
  | false => exact iteF ⟨R1, env, Qd, Ed, rs.ext x1 ok1, by simpa using q1, hq.ext x1, hx.ext x1⟩
theorem st_bool {op} (h : SW X κ W (.BoolOp op (a :: rest) pos) va) : ST X κ W (.BoolOp op (a :: rest) pos) va := PW.pt h
theorem st_not (ha : ST X κ W a va) : ST X κ W (.UnaryOp .Not a pos) (wNotT va) := by
  refine pt_of (pt_not ha) fun σ H Q ⟨R, env, Qd, Ed, rs, h, hq, hx⟩ => ?_
  exact ⟨R, env, _, Ed, rs, h, fun k R1 H1 x1 ok1 q1 => hq _ R1 H1 x1 ok1 q1, hx⟩
/-- the same as values, of truth values -/
@[simp] def wAndV (a b : WE) : WE := fun env Q E => a env (fun x _ => asB x fun c => if c = true then b env Q E else Q (.bl false) .frz) E
@[simp] def wOrV (a b : WE) : WE := fun env Q E => a env (fun x _ => asB x fun c => if c = true then Q (.bl true) .frz else b env Q E) E
@[simp] def wNotV (a : WE) : WE := fun env Q E => a env (fun x _ => asB x fun c => Q (.bl (!c)) .frz) E
theorem rep_bl {K : PySem.W.Frag} {R : Rg} {H : Hp} {b : Bool} : Rep K R H (.bl b) (.bl b) := by
  unfold Rep
  rfl
theorem rep_int {K : PySem.W.Frag} {R : Rg} {H : Hp} {i : Int} : Rep K R H (.int i) (.int i) := by
  unfold Rep
  rfl
theorem rep_str {K : PySem.W.Frag} {R : Rg} {H : Hp} {s : Str} : Rep K R H (.str s) (.str s) := by
  unfold Rep
  rfl
theorem rep_non {K : PySem.W.Frag} {R : Rg} {H : Hp} : Rep K R H .non .non := by
  unfold Rep
  rfl
theorem se_one {op} (h : SE X κ W a wa) : SE X κ W (.BoolOp op [a] pos) wa := pe_one h
theorem se_and (ha : SE X κ W a wa) (hb : SE X κ W (.BoolOp .And (b :: rest) pos) wb) : SE X κ W (.BoolOp .And (a :: b :: rest) pos) (wAndV wa wb) := by
  refine pe_of (pe_and ha hb) fun σ H Q ⟨R, env, Qd, Ed, rs, h, hq, hx⟩ => ?_
  refine ⟨R, env, _, Ed, rs, h, fun d k v R1 H1 x1 ok1 r1 q1 => ?_, hx⟩
  obtain ⟨c, rfl, q⟩ := q1
  refine ⟨c, r1.vw.bl, ?_⟩
  cases c with
  | true => exact iteT ⟨R1, env, Qd, Ed, rs.ext x1 ok1, by simpa using q, hq.ext x1, hx.ext x1⟩
  | false => exact iteF ((hq.ext x1).now ok1 rep_bl (by simpa using q))
theorem se_or (ha : SE X κ W a wa) (hb : SE X κ W (.BoolOp .Or (b :: rest) pos) wb) : SE X κ W (.BoolOp .Or (a :: b :: rest) pos) (wOrV wa wb) := by
  refine pe_of (pe_or ha hb) fun σ H Q ⟨R, env, Qd, Ed, rs, h, hq, hx⟩ => ?_
  refine ⟨R, env, _, Ed, rs, h, fun d k v R1 H1 x1 ok1 r1 q1 => ?_, hx⟩
  obtain ⟨c, rfl, q⟩ := q1
  refine ⟨c, r1.vw.bl, ?_⟩
  cases c with
  | true => exact iteT ((hq.ext x1).now ok1 rep_bl (by simpa using q))
  | false => exact iteF ⟨R1, env, Qd, Ed, rs.ext x1 ok1, by simpa using q, hq.ext x1, hx.ext x1⟩
theorem se_not (ha : SE X κ W a wa) : SE X κ W (.UnaryOp .Not a pos) (wNotV wa) := by
  refine pe_of (pe_not ha) fun σ H Q ⟨R, env, Qd, Ed, rs, h, hq, hx⟩ => ?_
  refine ⟨R, env, _, Ed, rs, h, fun d k v R1 H1 x1 ok1 r1 q1 => ?_, hx⟩
  obtain ⟨c, rfl, q⟩ := q1
  exact ⟨c, r1.vw.bl, (hq.ext x1).now ok1 rep_bl q⟩
@[simp] def wIf (t : WB) (a b : WE) : WE := fun env Q E => t env (fun c => if c = true then a env Q E else b env Q E) E
theorem se_if {t : Expr} (ht : ST X κ W t va) (ha : SE X κ W a wa) (hb : SE X κ W b wb) : SE X κ W (.IfExp t a b pos) (wIf va wa wb) := by
  refine pe_of (pe_ifExp ht ha hb) fun σ H Q ⟨R, env, Qd, Ed, rs, h, hq, hx⟩ => ?_
  refine ⟨R, env, _, Ed, rs, h, fun k R1 H1 x1 ok1 q1 => ?_, hx⟩
  cases k with
  | true => exact iteT ⟨R1, env, Qd, Ed, rs.ext x1 ok1, by simpa using q1, hq.ext x1, hx.ext x1⟩
  | false => exact iteF ⟨R1, env, Qd, Ed, rs.ext x1 ok1, by simpa using q1, hq.ext x1, hx.ext x1⟩
/-- a op b op' c -/
@[simp] def wChain (f g : D → D → QD → Prop) (a b c : WE) : WE := fun env Q E => a env (fun x _ => b env (fun y _ => f x y fun z _ => asB z fun k => if k = true then c env (fun w _ => g y w Q) E else Q (.bl false) .frz) E) E
theorem chain_imp {r r' : R2} {f g : D → D → QD → Prop} (hf : BinOk X κ r f) (hg : BinOk X κ r' g) : ∀ σ H Q, tE X κ W (wChain f g wa wb wc) σ H Q → tChain r r' (tE X κ W wa) (tE X κ W wb) (tE X κ W wc) σ H Q := by
  rintro σ H Q ⟨R, env, Qd, Ed, rs, h, hq, hx⟩
  refine ⟨R, env, _, Ed, rs, h, fun d k v R1 H1 x1 ok1 r1 h1 => ?_, hx⟩
  have rs1 := rs.ext x1 ok1
  refine ⟨R1, env, _, Ed, rs1, h1, fun e k2 u R2 H2 x2 ok2 r2 h2 => ?_, hx.ext x1⟩
  have rs2 := rs1.ext x2 ok2
  refine hf R2 env σ H2 v u d e _ _ rs2 (r1.ext ok1 x2).vw r2.vw h2 fun z kz y R3 H3 x3 ok3 r3 q3 => ?_
  obtain ⟨k, rfl, q⟩ := q3
  refine ⟨k, r3.vw.bl, ?_⟩
  cases k with
  | false => exact iteF ((((hq.ext x1).ext x2).ext x3).now ok3 rep_bl (by simpa using q))
  | true =>
    have rs3 := rs2.ext x3 ok3
    refine iteT ⟨R3, env, _, Ed, rs3, by simpa using q, fun e4 k4 u4 R4 H4 x4 ok4 r4 h4 => ?_, ((hx.ext x1).ext x2).ext x3⟩
    exact hg R4 env σ H4 u u4 e e4 Qd Q (rs3.ext x4 ok4) ((r2.ext ok2 x3).ext ok3 x4).vw r4.vw h4 ((((hq.ext x1).ext x2).ext x3).ext x4)
theorem se_chain {op op' : CmpOp} {r r' : R2} {f g : D → D → QD → Prop} (ho : OpR X (compareOp op) r) (hf : BinOk X κ r f) (ho' : OpR X (compareOp op') r') (hg : BinOk X κ r' g) (ha : SE X κ W a wa) (hb : SE X κ W b wb) (hc : SE X κ W c wc)
    (hm : lastMarks [op, op'] [b, c] = false := by with_unfolding_all rfl) : SE X κ W (.Compare a [op, op'] [b, c] pos) (wChain f g wa wb wc) := pe_of (pe_chain ho ho' ha hb hc hm) (chain_imp hf hg)
theorem st_chain {op op' : CmpOp} {r r' : R2} {f g : D → D → QD → Prop} (ho : OpR X (compareOp op) r) (hf : BinOk X κ r f) (ho' : OpR X (compareOp op') r') (hg : BinOk X κ r' g) (ha : SE X κ W a wa) (hb : SE X κ W b wb) (hc : SE X κ W c wc)
    (hm : lastMarks [op, op'] [b, c] = false := by with_unfolding_all rfl) : ST X κ W (.Compare a [op, op'] [b, c] pos) (wTst (wChain f g wa wb wc)) := pt_of (pt_chain ho ho' ha hb hc hm) (tst_imp (chain_imp hf hg))

/-! ### argument lists -/
@[simp] def wNil : WA := fun _ Q _ => Q []
@[simp] def wCons (a : WE) (r : WA) : WA := fun env Q E => a env (fun d k => r env (fun ds => Q ((d, k) :: ds)) E) E
theorem sa_nil : SA X κ W [] wNil := pa_of pa_nil fun σ H Q ⟨R, env, Qd, Ed, rs, h, hq, hx⟩ => hq [] [] R H (Ext.refl R H) rs.ok .nil h
theorem sa_cons {es : List Expr} {wr : WA} (ha : SE X κ W a wa) (hr : SA X κ W es wr) (hs : starEach (a :: es) X.env = (false, eval a X.env) :: starEach es X.env := by rfl) : SA X κ W (a :: es) (wCons wa wr) := by
  refine pa_of (pa_cons ha hr hs) fun σ H Q ⟨R, env, Qd, Ed, rs, h, hq, hx⟩ => ?_
  refine ⟨R, env, _, Ed, rs, h, fun d k v R1 H1 x1 ok1 r1 h1 => ?_, hx⟩
  refine ⟨R1, env, _, Ed, rs.ext x1 ok1, h1, fun ds vs R2 H2 x2 ok2 r2 h2 => ?_, hx.ext x1⟩
  refine hq ((d, k) :: ds) (v :: vs) R2 H2 (x1.trans x2) ok2 (.cons (r1.ext ok1 x2) (fun hk j q e1 e2 e3 => ?_) (r2.back x1)) h2
  obtain ⟨b, e4, n⟩ := r2.fresh j q e1 e2
  have hk : k = .own := hk
  subst hk
  obtain ⟨a, e5, _, _, _, o⟩ := r1
  obtain ⟨ob, ho⟩ := o.there
  rw [e4, e5] at e3
  cases e3
  rw [n] at ho
  cases ho

/-! ### new objects -/
/-- R with what is at a for good -/
def Rg.put (R : Rg) (p : Addr → Prop) : Rg := { R with Z := fun a => R.Z a ∨ p a }
/-- a new object, for good -/
theorem ext_new {R : Rg} {H : Hp} (ok : Rok κ R H) {p : Addr} (o : HO) (n : H p = none) : Ext R H (R.put (· = p)) (upd H p o) ∧ Rok κ (R.put (· = p)) (upd H p o) := by
  have ne : ∀ a u, H a = some u → a ≠ p := fun a u e z => by rw [z, n] at e; cases e
  refine ⟨⟨fun a u e _ => by rw [upd_ne (ne a u e)]; exact e, fun a u e => ⟨u, by rw [upd_ne (ne a u e)]; exact e⟩, fun a z => .inl z, fun a z => ?_, fun a z => .inl z, fun r z => z⟩, ⟨fun a z => ?_, fun a z hb => ?_, ?_⟩⟩
  · rcases z with z | z
    · exact .inl z
    · exact .inr (by rw [z]; exact n)
  · rcases z with z | z
    · obtain ⟨u, e⟩ := ok.zin a z
      exact ⟨u, by rw [upd_ne (ne a u e)]; exact e⟩
    · exact ⟨o, by rw [z]; exact upd_same⟩
  · rcases z with z | z
    · exact ok.zb a z hb
    · obtain ⟨u, e⟩ := ok.bin (show R.B a from hb)
      exact ne a u e z
  · refine κ.frame ok.bi (fun a => Iff.rfl) (fun a => Iff.rfl) fun a hb => ?_
    obtain ⟨u, e⟩ := ok.bin hb
    exact upd_ne (ne a u e)
/-- a new object of our own -/
theorem ext_own {R : Rg} {H : Hp} (ok : Rok κ R H) {p : Addr} (o : HO) (n : H p = none) : Ext R H R (upd H p o) ∧ Rok κ R (upd H p o) ∧ ¬ R.Z p ∧ ¬ R.B p := by
  have ne : ∀ a u, H a = some u → a ≠ p := fun a u e z => by rw [z, n] at e; cases e
  refine ⟨⟨fun a u e _ => by rw [upd_ne (ne a u e)]; exact e, fun a u e => ⟨u, by rw [upd_ne (ne a u e)]; exact e⟩, fun a z => z, fun a z => .inl z, fun a z => .inl z, fun r z => z⟩, ⟨fun a z => ?_, ok.zb, ?_⟩, fun z => ?_, fun z => ?_⟩
  · obtain ⟨u, e⟩ := ok.zin a z
    exact ⟨u, by rw [upd_ne (ne a u e)]; exact e⟩
  · refine κ.frame ok.bi (fun a => Iff.rfl) (fun a => Iff.rfl) fun a hb => ?_
    obtain ⟨u, e⟩ := ok.bin hb
    exact upd_ne (ne a u e)
  · obtain ⟨u, e⟩ := ok.zin p z
    rw [n] at e
    cases e
  · obtain ⟨u, e⟩ := ok.bin z
    rw [n] at e
    cases e
/-- no slot's own is among them -/
@[simp] def kept (ds : List (D × Kd)) : Prop := ∀ p ∈ ds, ∀ q, p = (q, Kd.bor) → False
/-- new ones that are kept somewhere stay from now on -/
theorem freeze {K : PySem.W.Frag} {R0 R : Rg} {env : Sls} {σ : St} {H₀ H : Hp} {vs : List V} {ds : List (D × Kd)} (ok : Rok κ R H) (x : Ext R0 H₀ R H) (h : RepA K R env σ H₀ H vs ds) (nb : kept ds) :
    ∃ R1, Ext R0 H₀ R1 H ∧ Rok κ R1 H ∧ RepL K R1 H vs (ds.map (·.1)) ∧ (∀ a, R.Z a → R1.Z a) ∧ (∀ a, R1.B a ↔ R.B a) ∧ (∀ a, R1.rt a ↔ R.rt a) ∧ (∀ a, R1.Z a → R.Z a ∨ H₀ a = none) := by
  induction h with
  | nil => exact ⟨R, x, ok, RepL.nil, fun _ z => z, fun _ => Iff.rfl, fun _ => Iff.rfl, fun _ z => .inl z⟩
  | @cons v vs p ps h _ hs ih =>
    obtain ⟨R1, x1, ok1, r1, z1, b1, t1, n1⟩ := ih fun q hq => nb q (List.mem_cons_of_mem _ hq)
    cases k : p.2 with
    | frz =>
      rw [k] at h
      exact ⟨R1, x1, ok1, .cons (Rep.mono z1 (fun a z => (t1 a).mpr z) h) r1, z1, b1, t1, n1⟩
    | own =>
      rw [k] at h
      obtain ⟨a, e, n, nz, nb', us, es, e1, e2, r⟩ := h
      refine ⟨R1.put (· = a), ⟨x1.keep, x1.dom, fun c z => .inl (x1.zs c z), fun c z => ?_, x1.bn, x1.rts⟩, ⟨fun c z => ?_, fun c z hb => ?_, κ.frame ok1.bi (fun _ => Iff.rfl) (fun _ => Iff.rfl) fun _ _ => rfl⟩, ?_, fun c z => .inl (z1 c z), b1, t1, fun c z => ?_⟩
      · rcases z with z | z
        · exact x1.zn c z
        · exact .inr (by rw [z]; exact n)
      · rcases z with z | z
        · exact ok1.zin c z
        · exact ⟨_, by rw [z]; exact e2⟩
      · rcases z with z | z
        · exact ok1.zb c z hb
        · exact nb' ((b1 a).mp (by rw [← z]; exact hb))
      · refine .cons ?_ (RepL.mono (R := R1) (R' := R1.put (· = a)) (fun c z => Or.inl z) (fun c z => z) r1)
        show Rep K _ H v p.1
        rw [e, e1]
        unfold Rep
        exact ⟨a, us, rfl, ⟨e2, .inr rfl⟩, RepL.mono (R := R) (R' := R1.put (· = a)) (fun c z => Or.inl (z1 c z)) (fun c z => (t1 c).mpr z) r⟩
      · rcases z with z | z
        · exact n1 c z
        · exact .inr (by rw [z]; exact n)
    | bor => exact (nb p (List.mem_cons_self ..) p.1 (by rw [← k])).elim
/-- a tuple, a list of written items -/
@[simp] def wTup (a : WA) : WE := fun env Q E => a env (fun ds => kept ds ∧ ds.length ≤ sizeLine ∧ Q (.tup (ds.map (·.1))) .frz) E
@[simp] def wLst (a : WA) : WE := fun env Q E => a env (fun ds => kept ds ∧ ds.length ≤ sizeLine ∧ Q (.lst (ds.map (·.1))) .own) E
theorem RepL.lenD {K : PySem.W.Frag} {R : Rg} {H : Hp} {vs : List V} {ds : List (D × Kd)} (h : RepL K R H vs (ds.map (·.1))) : vs.length = ds.length := by
  rw [h.len, List.length_map]
/-- a new tuple -/
theorem QOk.tup {env : Sls} {σ : St} {R R1 : Rg} {H H1 : Hp} {Qd : QD} {Q : VK} (h : QOk X κ env σ R H Qd Q) (x : Ext R H R1 H1) (ok : Rok κ R1 H1) {vs : List V} {ds : List D} (r : RepL X.K R1 H1 vs ds) (q : Qd (.tup ds) .frz) :
    ∀ p, H1 p = none → Q (.ref p) (upd H1 p (.tup vs)) := fun p n => by
  obtain ⟨x2, ok2⟩ := ext_new ok (.tup vs) n
  refine h (.tup ds) .frz _ _ _ (x.trans x2) ok2 ?_ q
  show Rep _ _ _ _ _
  unfold Rep
  exact ⟨p, vs, rfl, .inl ⟨upd_same, .inr rfl⟩, r.ext ok x2⟩
/-- a new list of our own -/
theorem QOk.lst {env : Sls} {σ : St} {R R1 : Rg} {H H1 : Hp} {Qd : QD} {Q : VK} (h : QOk X κ env σ R H Qd Q) (x : Ext R H R1 H1) (ok : Rok κ R1 H1) {vs : List V} {ds : List D} (r : RepL X.K R1 H1 vs ds) (q : Qd (.lst ds) .own) :
    ∀ p, H1 p = none → Q (.ref p) (upd H1 p (.lst vs)) := fun p n => by
  obtain ⟨x2, ok2, nz, nb⟩ := ext_own ok (.lst vs) n
  exact h (.lst ds) .own _ _ _ (x.trans x2) ok2 ⟨p, rfl, x.back n, nz, nb, vs, ds, rfl, upd_same, r.ext ok x2⟩ q
theorem se_tup {es : List Expr} {x1} {w : WA} (h : SA X κ W es w) : SE X κ W (.Tuple es x1 pos) (wTup w) := by
  refine pe_of (pe_tup h) fun σ H Q ⟨R, env, Qd, Ed, rs, hw, hq, hx⟩ => ?_
  refine ⟨R, env, _, Ed, rs, hw, fun ds vs R1 H1 x1 ok1 r1 ⟨nb, hl, q⟩ => ?_, hx⟩
  obtain ⟨R2, x2, ok2, r2, _⟩ := freeze ok1 x1 r1 nb
  exact ⟨by rw [r2.lenD]; exact hl, hq.tup x2 ok2 r2 q⟩
theorem se_lst {es : List Expr} {w : WA} (h : SA X κ W es w) : SE X κ W (.List es pos) (wLst w) := by
  refine pe_of (pe_lst h) fun σ H Q ⟨R, env, Qd, Ed, rs, hw, hq, hx⟩ => ?_
  refine ⟨R, env, _, Ed, rs, hw, fun ds vs R1 H1 x1 ok1 r1 ⟨nb, hl, q⟩ => ?_, hx⟩
  obtain ⟨R2, x2, ok2, r2, _⟩ := freeze ok1 x1 r1 nb
  exact ⟨by rw [r2.lenD]; exact hl, hq.lst x2 ok2 r2 q⟩
/-- a built-in by its name, on values -/
@[simp] def wBlt (f : List D → QD → Prop) (a : WA) : WE := fun env Q E => a env (fun ds => f (ds.map (·.1)) Q) E
inductive VwL (K : PySem.W.Frag) (R : Rg) (H : Hp) : List V → List D → Prop
  | nil : VwL K R H [] []
  | cons {v : V} {vs : List V} {d : D} {ds : List D} : Vw K R H v d → VwL K R H vs ds → VwL K R H (v :: vs) (d :: ds)
theorem RepA.vw {K : PySem.W.Frag} {R : Rg} {env : Sls} {σ : St} {H₀ H : Hp} {vs : List V} {ds : List (D × Kd)} (h : RepA K R env σ H₀ H vs ds) : VwL K R H vs (ds.map (·.1)) := by
  induction h with
  | nil => exact .nil
  | cons h _ _ ih => exact .cons h.vw ih
def BltOk (X : Cx) (κ : BoxKit) (r : List V → Hp → VK → Prop) (f : List D → QD → Prop) : Prop := ∀ (R : Rg) (env : Sls) (σ : St) (H : Hp) (vs : List V) (ds : List D) (Qd : QD) (Q : VK), RS X.K κ R env σ H → VwL X.K R H vs ds → f ds Qd → QOk X κ env σ R H Qd Q → r vs H Q
theorem blt_imp {r : List V → Hp → VK → Prop} {f : List D → QD → Prop} (hf : BltOk X κ r f) {w : WA} : ∀ σ H Q, tE X κ W (wBlt f w) σ H Q → tCB r (tA X κ W w) σ H Q := by
  rintro σ H Q ⟨R, env, Qd, Ed, rs, h, hq, hx⟩
  exact ⟨R, env, _, Ed, rs, h, fun ds vs R1 H1 x1 ok1 r1 h1 => hf R1 env σ H1 vs _ Qd Q (rs.ext x1 ok1) r1.vw h1 (hq.ext x1), hx⟩
variable {x : Str} {p : Pos} {e : Expr} {es : List Expr} {w : WA}
theorem se_callB {id : String} {r : List V → Hp → VK → Prop} {f : List D → QD → Prop} (hc : CallR X (.builtin id) r) (hf : BltOk X κ r f) (hg : Gl X x) (hm : X.mg x = none) (hv : bootBuiltins x = some (.builtin id)) (ha : SA X κ W (e :: es) w) (hn : x ≠ "__name__" := by decide) (hdb : (x == ("__debug__" : Str)) = false := by decide)
    (he : starEach (e :: es) X.env = (false, eval e X.env) :: starEach es X.env := by rfl) (hpl : (backTo pos (starEach es X.env)).any (·.1) = false := by rfl) : SE X κ W (.Call (.Name x p) (e :: es) [] pos) (wBlt f w) :=
  pe_of (pe_callB hc hg hm hv ha hn hdb he hpl) (blt_imp hf)
theorem se_callTy {T : String} {r : List V → Hp → VK → Prop} {f : List D → QD → Prop} (hc : CallR X (.type T) r) (hf : BltOk X κ r f) (hg : Gl X x) (hm : X.mg x = none) (hv : bootBuiltins x = some (.type T)) (ha : SA X κ W (e :: es) w) (hn : x ≠ "__name__" := by decide) (hdb : (x == ("__debug__" : Str)) = false := by decide)
    (he : starEach (e :: es) X.env = (false, eval e X.env) :: starEach es X.env := by rfl) (hpl : (backTo pos (starEach es X.env)).any (·.1) = false := by rfl) : SE X κ W (.Call (.Name x p) (e :: es) [] pos) (wBlt f w) :=
  pe_of (pe_callTy hc hg hm hv ha hn hdb he hpl) (blt_imp hf)

/-! ### what a def promises -/
/-- an answer: for good, or new -/
def RepR (K : PySem.W.Frag) (R : Rg) (H₀ H : Hp) (v : V) (d : D) : Kd → Prop
  | .frz => Rep K R H v d
  | .own => ∃ a, v = .ref a ∧ H₀ a = none ∧ ¬ R.Z a ∧ ¬ R.B a ∧ OwnAt K R H a d
  | .bor => False
theorem RepR.k {K : PySem.W.Frag} {R : Rg} {H₀ H : Hp} {v : V} {d : D} {k : Kd} (h : RepR K R H₀ H v d k) (env : Sls) (σ : St) : RepK K R env σ H₀ H v d k := by
  cases k with
  | frz => exact h
  | own => exact h
  | bor => exact h.elim
def spOf (K : PySem.W.Frag) (mg : Str → Option Value) (κ : BoxKit) (n : Nat) (f : PSp) : Sp := fun vs H Q E => vs.length = n ∧ ∃ (R : Rg) (ds : List D) (Qd : QD) (Ed : XD), Rok κ R H ∧ RepL K R H vs ds ∧ f ds Qd Ed ∧
  (∀ (d : D) (k : Kd) (v : V) (R' : Rg) (H' : Hp), Ext R H R' H' → Rok κ R' H' → RepR K R' H H' v d k → Qd d k → Q v H') ∧
  (∀ (c : Str) (fs : List (Str × D)) (cls : Value) (dd : Option Addr) (R' : Rg) (H' : Hp), Ext R H R' H' → Rok κ R' H' → RepX K mg R' H' c fs cls dd → Ed c fs → E cls dd H')
/-- the module's def x is there and keeps its promise f, at level k -/
structure FnAt (P : Program) (wd : World) (K : PySem.W.Frag) (mg : Str → Option Value) (base : Heap) (κ : BoxKit) (k : Nat) (x : Str) (n : Nat) (f : PSp) : Prop where
  ex : ∃ (a : Addr) (fd : FuncData) (ps : List Str), mg x = some (.ref a) ∧ PySem.W.keepIn K (.ref a) = true ∧ Binds K fd ps [] ∧ FnOk P wd K mg base (L2N.CX P wd) k a fd ps (spOf K mg κ n f)
/-- no addresses in it -/
def flatD : D → Bool
  | .non => true | .bl _ => true | .int _ => true | .str _ => true
  | _ => false
def allFrz : List (D × Kd) → Bool
  | [] => true
  | (_, .bor) :: _ => false
  | _ :: r => allFrz r
/-- f(e, ..): a slot's own may be handed on where the answer keeps nothing of it -/
@[simp] def wCall (n : Nat) (f : PSp) (a : WA) : WE := fun env Q E => a env (fun ds => kept ds ∧ ds.length = n ∧ f (ds.map (·.1)) Q E) E
theorem se_call {k n : Nat} {f : PSp} (F : FnAt X.prog X.w X.K X.mg X.base κ k x n f) (hr : Room k X.A) (tk : L2N.Takes X W) (hg : Gl X x) (ha : SA X κ W (e :: es) w) (hdb : (x == ("__debug__" : Str)) = false := by decide)
    (he : starEach (e :: es) X.env = (false, eval e X.env) :: starEach es X.env := by rfl) (hpl : (backTo pos (starEach es X.env)).any (·.1) = false := by rfl) : SE X κ W (.Call (.Name x p) (e :: es) [] pos) (wCall n f w) := by
  obtain ⟨a, fd, ps, hm, hk, hb, G⟩ := F.ex
  refine pe_of (pe_callSD G hr hg hm hk hb .nil (fun σ => L2N.passAt tk σ) ha hdb he hpl) fun σ H Q ⟨R, env, Qd, Ed, rs, h, hq, hx⟩ => ?_
  refine ⟨R, env, _, Ed, rs, h, fun ds vs R1 H1 x1 ok1 r1 ⟨nb, hl, q⟩ => ?_, hx⟩
  obtain ⟨R2, x2, ok2, r2, _⟩ := freeze ok1 x1 r1 nb
  refine ⟨?_, R2, ds.map (·.1), Qd, Ed, ok2, by simpa using r2, q, fun d k v R' H' x' ok' r' q' => ?_, fun c fs cls dd R' H' x' ok' r' q' => ?_⟩
  · rw [List.append_nil, r2.lenD]
    exact hl
  · exact hq d k v R' H' (x2.trans x') ok' ((r'.k env σ).back x2) q'
  · exact hx c fs cls dd R' H' (x2.trans x') ok' r' q'
end
end Kn
namespace Kn
open PySem PySem.Spec L2

/-- what is wanted behind a statement -/
structure EndD where
  nx : Sls → Prop
  rt : D → Kd → Sls → Prop
  bk : Sls → Prop := fun _ => False
  ct : Sls → Prop := fun _ => False
  ex : Str → List (Str × D) → Sls → Prop
abbrev WS := EndD → Sls → Prop

/-- the ground that a body stands on -/
structure Bg where
  R : Rg
  H : Hp
structure RTk (K : PySem.W.Frag) (κ : BoxKit) (G : Bg) (R : Rg) (env : Sls) (σ : St) (H : Hp) : Prop where
  rs : RS K κ R env σ H
  ext : Ext G.R G.H R H
  nw : ∀ (i : Nat) (d : D) (a : Addr), env[i]? = some (.own d) → σ[i]? = some (some (.ref a)) → G.H a = none
abbrev RT (X : Cx) (κ : BoxKit) (G : Bg) (R : Rg) (env : Sls) (σ : St) (H : Hp) : Prop := RTk X.K κ G R env σ H
theorem RT.go {X : Cx} {κ : BoxKit} {R0 : Bg} {R R' : Rg} {env : Sls} {σ : St} {H H' : Hp} (r : RT X κ R0 R env σ H) (x : Ext R H R' H') (ok : Rok κ R' H') : RT X κ R0 R' env σ H' := ⟨r.rs.ext x ok, r.ext.trans x, r.nw⟩

structure SOkk (K : PySem.W.Frag) (mg : Str → Option Value) (κ : BoxKit) (W : WX) (G : Bg) (Rs : Rg) (Hs : Hp) (De : Ends) (DS : EndD) : Prop where
  nx : ∀ (R : Rg) (env : Sls) (σ : St) (H : Hp), RTk K κ G R env σ H → Sta Rs Hs R H → DS.nx env → De.nx σ H
  bk : ∀ (R : Rg) (env : Sls) (σ : St) (H : Hp), RTk K κ G R env σ H → Sta Rs Hs R H → DS.bk env → De.bk σ H
  ct : ∀ (R : Rg) (env : Sls) (σ : St) (H : Hp), RTk K κ G R env σ H → Sta Rs Hs R H → DS.ct env → De.ct σ H
  rt : ∀ (R : Rg) (env : Sls) (σ : St) (H : Hp) (d : D) (k : Kd) (v : V), RTk K κ G R env σ H → Sta Rs Hs R H → RepR K R G.H H v d k → DS.rt d k env → De.rt v H
  ex : ∀ (R : Rg) (env : Sls) (σ : St) (H : Hp) (c : Str) (fs : List (Str × D)) (cls : Value) (dd : Option Addr), RTk K κ G R env σ H → Sta Rs Hs R H → RepX K mg R H c fs cls dd → DS.ex c fs env → W cls dd σ H
abbrev SOk (X : Cx) (κ : BoxKit) (W : WX) (G : Bg) (Rs : Rg) (Hs : Hp) (De : Ends) (DS : EndD) : Prop := SOkk X.K X.mg κ W G Rs Hs De DS
section
variable (X : Cx) (κ : BoxKit) (W : WX) (R0 : Bg)
def tS (w : WS) : TS := fun D σ H => ∃ (R : Rg) (env : Sls) (DS : EndD), RT X κ R0 R env σ H ∧ w DS env ∧ SOk X κ W R0 R H D DS
abbrev SS (st : Stmt) (w : WS) : Prop := PS X st (tS X κ W R0 w)
abbrev SSs (st : List Stmt) (w : WS) : Prop := PSs X st (tS X κ W R0 w)
end

section
variable {X : Cx} {κ : BoxKit} {W : WX} {R0 : Bg}
theorem ps_of {st : Stmt} {t t' : TS} (h : PS X st t) (i : ∀ D σ H, t' D σ H → t D σ H) : PS X st t' := ⟨fun pins s σ H D I hw => h.run pins s σ H D I (i D σ H hw)⟩
theorem pss_of {st : List Stmt} {t t' : TS} (h : PSs X st t) (i : ∀ D σ H, t' D σ H → t D σ H) : PSs X st t' := ⟨fun pins s σ H D I hw => h.run pins s σ H D I (i D σ H hw)⟩
theorem SOk.xok {De : Ends} {DS : EndD} {R : Rg} {env : Sls} {σ : St} {H : Hp} (s : SOk X κ W R0 R H De DS) (r : RT X κ R0 R env σ H) : XOk X κ W σ R H (fun c fs => DS.ex c fs env) :=
  fun c fs cls dd R' H' x ok rx q => s.ex R' env σ H' c fs cls dd (r.go x ok) (x.sta r.rs.ok) rx q
theorem SOk.go {De : Ends} {DS : EndD} {R R' : Rg} {H H' : Hp} (s : SOk X κ W R0 R H De DS) (x : Sta R H R' H') : SOk X κ W R0 R' H' De DS :=
  ⟨fun R1 env σ H1 r y q => s.nx R1 env σ H1 r (x.trans y) q, fun R1 env σ H1 r y q => s.bk R1 env σ H1 r (x.trans y) q, fun R1 env σ H1 r y q => s.ct R1 env σ H1 r (x.trans y) q,
    fun R1 env σ H1 d k v o y r q => s.rt R1 env σ H1 d k v o (x.trans y) r q, fun R1 env σ H1 c fs cls dd r y rx q => s.ex R1 env σ H1 c fs cls dd r (x.trans y) rx q⟩

/-! ### blocks -/
@[simp] def wNext : WS := fun D env => D.nx env
@[simp] def wSeq (a b : WS) : WS := fun D env => a { D with nx := b D } env
variable {st : Stmt} {rest : List Stmt} {wa wb : WS} {pos : Pos} {e : Expr} {we : WE}
theorem sss_nil : SSs X κ W R0 [] wNext := pss_of pss_nil fun D σ H ⟨R, env, DS, rt, h, so⟩ => so.nx R env σ H rt (.refl R H) h
theorem sss_cons (h1 : SS X κ W R0 st wa) (h2 : SSs X κ W R0 rest wb) : SSs X κ W R0 (st :: rest) (wSeq wa wb) := by
  refine pss_of (pss_cons h1 h2) fun D σ H ⟨R, env, DS, rt, h, so⟩ => ?_
  exact ⟨R, env, _, rt, h, ⟨fun R' env' σ' H' r y q => ⟨R', env', DS, r, q, so.go y⟩, so.bk, so.ct, so.rt, so.ex⟩⟩
theorem sss_one (h1 : SS X κ W R0 st wa) : SSs X κ W R0 [st] wa := pss_one h1
@[simp] def wBreak : WS := fun D env => D.bk env
@[simp] def wCont : WS := fun D env => D.ct env
theorem ss_pass : SS X κ W R0 (.Pass pos) wNext := ps_of ps_pass fun D σ H ⟨R, env, DS, rt, h, so⟩ => so.nx R env σ H rt (.refl R H) h
theorem ss_break : SS X κ W R0 (.Break pos) wBreak := ps_of ps_break fun D σ H ⟨R, env, DS, rt, h, so⟩ => so.bk R env σ H rt (.refl R H) h
theorem ss_continue : SS X κ W R0 (.Continue pos) wCont := ps_of ps_continue fun D σ H ⟨R, env, DS, rt, h, so⟩ => so.ct R env σ H rt (.refl R H) h
@[simp] def wExpr (a : WE) : WS := fun D env => a env (fun _ _ => D.nx env) (fun c fs => D.ex c fs env)
theorem ss_expr (he : SE X κ W e we) (hs : swapsWith e none pos.line X.env = pure false := by rfl) : SS X κ W R0 (.Expr e pos) (wExpr we) := by
  refine ps_of (ps_expr he hs) fun D σ H ⟨R, env, DS, rt, h, so⟩ => ?_
  exact ⟨R, env, _, _, rt.rs, h, fun d k v R1 H1 x1 ok1 r1 q => so.nx R1 env σ H1 (rt.go x1 ok1) (x1.sta rt.rs.ok) q, so.xok rt⟩
/-- return e; a slot's own goes along -/
def mv : Kd → Kd
  | .frz => .frz
  | _ => .own
@[simp] def wRet (a : WE) : WS := fun D env => a env (fun d k => D.rt d (mv k) env) (fun c fs => D.ex c fs env)
theorem RT.rep {R R1 : Rg} {env : Sls} {σ : St} {H H1 : Hp} {d : D} {k : Kd} {v : V} (rt : RT X κ R0 R env σ H) (x : Ext R H R1 H1) (r : RepK X.K R1 env σ H H1 v d k) : RepR X.K R1 R0.H H1 v d (mv k) := by
  cases k with
  | frz => exact r
  | own =>
    obtain ⟨a, e, n, q⟩ := r
    exact ⟨a, e, rt.ext.back n, q⟩
  | bor =>
    obtain ⟨a, i, e, e1, e2, q⟩ := r
    exact ⟨a, e, rt.nw i d a e1 e2, q⟩
theorem ss_ret (he : SE X κ W e we) : SS X κ W R0 (.Return (some e) pos) (wRet we) := by
  refine ps_of (ps_ret he) fun D σ H ⟨R, env, DS, rt, h, so⟩ => ?_
  exact ⟨R, env, _, _, rt.rs, h, fun d k v R1 H1 x1 ok1 r1 q => so.rt R1 env σ H1 d (mv k) v (rt.go x1 ok1) (x1.sta rt.rs.ok) (rt.rep x1 r1) q, so.xok rt⟩
@[simp] def wRetN : WS := fun D env => D.rt .non .frz env
theorem ss_retN : SS X κ W R0 (.Return none pos) wRetN := ps_of ps_retN fun D σ H ⟨R, env, DS, rt, h, so⟩ => so.rt R env σ H .non .frz .non rt (.refl R H) (rep_non (K := X.K) (R := R) (H := H)) h
@[simp] def wIfS (t : WB) (a b : WS) : WS := fun D env => t env (fun c => if c = true then a D env else b D env) (fun c fs => D.ex c fs env)
theorem ss_if {t : Expr} {wt : WB} {a b : List Stmt} (ht : ST X κ W t wt) (ha : SSs X κ W R0 a wa) (hb : SSs X κ W R0 b wb) : SS X κ W R0 (.If t a b pos) (wIfS wt wa wb) := by
  refine ps_of (ps_if ht ha hb) fun D σ H ⟨R, env, DS, rt, h, so⟩ => ?_
  refine ⟨R, env, _, _, rt.rs, h, fun c R1 H1 x1 ok1 q => ?_, so.xok rt⟩
  cases c with
  | true => exact iteT ⟨R1, env, DS, rt.go x1 ok1, by simpa using q, so.go (x1.sta rt.rs.ok)⟩
  | false => exact iteF ⟨R1, env, DS, rt.go x1 ok1, by simpa using q, so.go (x1.sta rt.rs.ok)⟩
/-- a statement that is never come to -/
def wNever : WS := fun _ _ => False
theorem ss_never : SS X κ W R0 st wNever := ps_of ps_never fun D σ H ⟨_, _, _, _, h, _⟩ => h

/-! ### slots are set -/
def slot (d : D) : Kd → Slot
  | .frz => .val d
  | .own => .own d
  | .bor => .un
theorem set_get {α : Type} {l : List α} {i j : Nat} {x y : α} (h : (l.set i x)[j]? = some y) : (j = i ∧ y = x) ∨ (j ≠ i ∧ l[j]? = some y) := by
  by_cases e : j = i
  · subst e
    by_cases hl : j < l.length
    · rw [List.getElem?_set_self hl] at h
      exact .inl ⟨rfl, (Option.some.inj h).symm⟩
    · rw [List.getElem?_eq_none (by simpa using hl)] at h
      cases h
  · rw [List.getElem?_set_ne (Ne.symm e)] at h
    exact .inr ⟨e, h⟩
/-- a slot takes a value for good -/
theorem RS.setF {K : PySem.W.Frag} {R : Rg} {env : Sls} {σ : St} {H : Hp} (r : RS K κ R env σ H) {v : V} {d : D} (h : Rep K R H v d) (i : Nat) : RS K κ R (env.set i (.val d)) (σ.set i (some v)) H := by
  refine ⟨r.ok, by simpa using r.len, fun j d' e => ?_, fun j d' e => ?_, fun j l d' e' a h1 h2 h3 h4 => ?_, fun j a dd fs e => ?_⟩
  · rcases set_get e with ⟨rfl, q⟩ | ⟨n, q⟩
    · cases q
      have hl : j < σ.length := by
        rw [← r.len]
        have := (List.getElem?_eq_some_iff.mp e).1
        simpa using this
      exact ⟨v, List.getElem?_set_self hl, h⟩
    · obtain ⟨u, e1, e2⟩ := r.sl j d' q
      exact ⟨u, by rw [List.getElem?_set_ne (Ne.symm n)]; exact e1, e2⟩
  · rcases set_get e with ⟨rfl, q⟩ | ⟨n, q⟩
    · cases q
    · obtain ⟨u, e1, e2⟩ := r.ow j d' q
      exact ⟨u, by rw [List.getElem?_set_ne (Ne.symm n)]; exact e1, e2⟩
  · rcases set_get h1 with ⟨_, q⟩ | ⟨n1, q1⟩
    · cases q
    · rcases set_get h2 with ⟨_, q⟩ | ⟨n2, q2⟩
      · cases q
      · rw [List.getElem?_set_ne (Ne.symm n1)] at h3
        rw [List.getElem?_set_ne (Ne.symm n2)] at h4
        exact r.ne j l d' e' a q1 q2 h3 h4
  · rcases set_get e with ⟨_, q⟩ | ⟨n, q⟩
    · cases q
    · exact ⟨by rw [List.getElem?_set_ne (Ne.symm n)]; exact (r.xs j _ dd fs q).1, (r.xs j _ dd fs q).2⟩
theorem RS.setO {K : PySem.W.Frag} {R : Rg} {env : Sls} {σ : St} {H : Hp} (r : RS K κ R env σ H) {a : Addr} {d : D} (nz : ¬ R.Z a) (nb : ¬ R.B a) (o : OwnAt K R H a d) (i : Nat)
    (na : ∀ (j : Nat) (e : D), env[j]? = some (.own e) → σ[j]? = some (some (.ref a)) → j = i) : RS K κ R (env.set i (.own d)) (σ.set i (some (.ref a))) H := by
  have atI : ∀ {j : Nat} {s : Slot}, (env.set i (.own d))[j]? = some s → j = i → (σ.set i (some (V.ref a)))[j]? = some (some (.ref a)) := fun {j s} e q => by
    subst q
    have hl : j < σ.length := by
      rw [← r.len]
      have := (List.getElem?_eq_some_iff.mp e).1
      simpa using this
    exact List.getElem?_set_self hl
  refine ⟨r.ok, by simpa using r.len, fun j d' e => ?_, fun j d' e => ?_, fun j l d' e' b h1 h2 h3 h4 => ?_, fun j b dd fs e => ?_⟩
  · rcases set_get e with ⟨rfl, q⟩ | ⟨n, q⟩
    · cases q
    · obtain ⟨u, e1, e2⟩ := r.sl j d' q
      exact ⟨u, by rw [List.getElem?_set_ne (Ne.symm n)]; exact e1, e2⟩
  · rcases set_get e with ⟨q0, q⟩ | ⟨n, q⟩
    · cases q
      exact ⟨a, atI e q0, nz, nb, o⟩
    · obtain ⟨u, e1, e2⟩ := r.ow j d' q
      exact ⟨u, by rw [List.getElem?_set_ne (Ne.symm n)]; exact e1, e2⟩
  · rcases set_get h1 with ⟨q0, _⟩ | ⟨n1, q1⟩
    · rcases set_get h2 with ⟨q2, _⟩ | ⟨n2, q2⟩
      · rw [q0, q2]
      · rw [atI h1 q0] at h3
        rw [List.getElem?_set_ne (Ne.symm n2)] at h4
        cases h3
        rw [q0]
        exact (na l e' q2 h4).symm
    · rcases set_get h2 with ⟨q0, _⟩ | ⟨n2, q2⟩
      · rw [atI h2 q0] at h4
        rw [List.getElem?_set_ne (Ne.symm n1)] at h3
        cases h4
        rw [q0]
        exact na j d' q1 h3
      · rw [List.getElem?_set_ne (Ne.symm n1)] at h3
        rw [List.getElem?_set_ne (Ne.symm n2)] at h4
        exact r.ne j l d' e' b q1 q2 h3 h4
  · rcases set_get e with ⟨_, q⟩ | ⟨n, q⟩
    · cases q
    · exact ⟨by rw [List.getElem?_set_ne (Ne.symm n)]; exact (r.xs j _ dd fs q).1, (r.xs j _ dd fs q).2⟩
theorem RT.setF {R : Rg} {env : Sls} {σ : St} {H : Hp} (r : RT X κ R0 R env σ H) {v : V} {d : D} (h : Rep X.K R H v d) (i : Nat) : RT X κ R0 R (env.set i (.val d)) (σ.set i (some v)) H := by
  refine ⟨r.rs.setF h i, r.ext, fun j d' a e e' => ?_⟩
  rcases set_get e with ⟨_, q⟩ | ⟨n, q⟩
  · cases q
  · rw [List.getElem?_set_ne (Ne.symm n)] at e'
    exact r.nw j d' a q e'
theorem RT.setK {R R1 : Rg} {env : Sls} {σ : St} {H H1 : Hp} (r : RT X κ R0 R env σ H) (x : Ext R H R1 H1) (ok : Rok κ R1 H1) {v : V} {d : D} {k : Kd} (h : RepK X.K R1 env σ H H1 v d k) (nb : k ≠ .bor) (i : Nat) : RT X κ R0 R1 (env.set i (slot d k)) (σ.set i (some v)) H1 := by
  have r1 := r.go x ok
  cases k with
  | frz => exact r1.setF h i
  | own =>
    obtain ⟨a, rfl, n, nz, nb, o⟩ := h
    refine ⟨r1.rs.setO nz nb o i fun j e q1 q2 => ?_, r1.ext, fun j d' b e e' => ?_⟩
    · obtain ⟨c, q3, _, _, oc⟩ := r.rs.ow j e q1
      rw [q2] at q3
      cases q3
      obtain ⟨ob, ho⟩ := oc.there
      rw [n] at ho
      cases ho
    · rcases set_get e with ⟨q0, q⟩ | ⟨n', q⟩
      · subst q0
        have hl : j < σ.length := by
          rw [← r.rs.len]
          have := (List.getElem?_eq_some_iff.mp e).1
          simpa using this
        rw [List.getElem?_set_self hl] at e'
        cases e'
        exact r.ext.back n
      · rw [List.getElem?_set_ne (Ne.symm n')] at e'
        exact r.nw j d' b q e'
  | bor => exact (nb rfl).elim
/-- name = e -/
@[simp] def wSet (i : Nat) (a : WE) : WS := fun D env => a env (fun d k => k ≠ .bor ∧ D.nx (env.set i (slot d k))) (fun c fs => D.ex c fs env)
theorem ss_set {i : Nat} {x : Str} {pos' : Pos} (hN : X.N.Nodup) (he : SE X κ W e we) (hi : X.N[i]? = some x := by rfl) (hx : Loc X.env.scope x := by first | exact Or.inl rfl | exact Or.inr rfl) (hs : swapsWith e (some (.Name x pos')) pos.line X.env = pure false := by rfl)
    (hf : X.fn x = true ∨ X.env.scope.names.lookup x = some .local := by first | exact .inl rfl | exact .inr rfl) : SS X κ W R0 (.Assign [.Name x pos'] e pos) (wSet i we) := by
  refine ps_of (ps_set hN hi hx he hs hf) fun D σ H ⟨R, env, DS, rt, h, so⟩ => ?_
  exact ⟨R, env, _, _, rt.rs, h, fun d k v R1 H1 x1 ok1 r1 ⟨nb, q⟩ => so.nx R1 _ _ H1 (rt.setK x1 ok1 r1 nb i) (x1.sta rt.rs.ok) q, so.xok rt⟩
/-- a slot's own is let go: from now on it stays -/
def frz1 (i : Nat) (env : Sls) : Sls := match env[i]? with
  | some (.own d) => env.set i (.val d)
  | _ => env
theorem RT.frz {R : Rg} {env : Sls} {σ : St} {H : Hp} (r : RT X κ R0 R env σ H) (i : Nat) : ∃ R', RT X κ R0 R' (frz1 i env) σ H ∧ Sta R H R' H := by
  unfold frz1
  cases e : env[i]? with
  | none => exact ⟨R, r, .refl R H⟩
  | some s =>
    cases s with
    | un => exact ⟨R, r, .refl R H⟩
    | exc a dd fs => exact ⟨R, r, .refl R H⟩
    | val d => exact ⟨R, r, .refl R H⟩
    | own d =>
      obtain ⟨a, e1, nz, nb, o⟩ := r.rs.ow i d e
      have na := r.nw i d a e e1
      obtain ⟨us, es, e2, e3, ro⟩ := o
      have mz : ∀ c, R.Z c → (R.put (· = a)).Z c := fun c z => .inl z
      have sz : (σ.set i (some (V.ref a))) = σ := by
        refine List.ext_getElem? fun j => ?_
        by_cases q : j = i
        · subst q
          have hl : j < σ.length := (List.getElem?_eq_some_iff.mp e1).1
          rw [List.getElem?_set_self hl, e1]
        · rw [List.getElem?_set_ne (Ne.symm q)]
      have rd : Rep X.K (R.put (· = a)) H (.ref a) d := by
        rw [e2]
        unfold Rep
        exact ⟨a, us, rfl, ⟨e3, .inr rfl⟩, RepL.mono (R' := R.put (· = a)) mz (fun _ z => z) ro⟩
      have ok' : Rok κ (R.put (· = a)) H := ⟨fun c z => z.elim (r.rs.ok.zin c) fun z => ⟨_, (congrArg H z).trans e3⟩, fun c z hb => z.elim (fun z => r.rs.ok.zb c z hb) fun z => nb (by rw [← z]; exact hb), κ.frame r.rs.ok.bi (fun _ => Iff.rfl) (fun _ => Iff.rfl) fun _ _ => rfl⟩
      have hget : ∀ {j : Nat} {s : Slot}, (env.set i (.val d))[j]? = some s → (j = i ∧ s = .val d) ∨ (j ≠ i ∧ env[j]? = some s) := fun h => set_get h
      refine ⟨R.put (· = a), ⟨⟨ok', by simpa using r.rs.len, fun j d' q => ?_, fun j d' q => ?_, fun j l d' e' b h1 h2 h3 h4 => ?_, fun j b dd fs q => ?_⟩, ⟨r.ext.keep, r.ext.dom, fun c z => .inl (r.ext.zs c z), fun c z => z.elim (r.ext.zn c) fun z => .inr (by rw [z]; exact na), r.ext.bn, r.ext.rts⟩, fun j d' b q q' => ?_⟩, ⟨fun c o _ h => h, mz, fun _ z => z⟩⟩
      · rcases hget q with ⟨q0, q1⟩ | ⟨n, q1⟩
        · cases q1
          exact ⟨_, by rw [q0]; exact e1, rd⟩
        · obtain ⟨u, f1, f2⟩ := r.rs.sl j d' q1
          exact ⟨u, f1, f2.mono mz fun _ z => z⟩
      · rcases hget q with ⟨q0, q1⟩ | ⟨n, q1⟩
        · cases q1
        · obtain ⟨u, f1, f2, f3, us', es', g1, g2, g3⟩ := r.rs.ow j d' q1
          refine ⟨u, f1, fun z => z.elim f2 fun z => n ?_, f3, us', es', g1, g2, g3.mono mz fun _ z => z⟩
          exact r.rs.ne j i d' d a q1 e (by rw [← z]; exact f1) e1
      · rcases hget h1 with ⟨_, q1⟩ | ⟨n1, q1⟩
        · cases q1
        · rcases hget h2 with ⟨_, q2⟩ | ⟨n2, q2⟩
          · cases q2
          · exact r.rs.ne j l d' e' b q1 q2 h3 h4
      · rcases hget q with ⟨_, q1⟩ | ⟨n, q1⟩
        · cases q1
        · exact ⟨(r.rs.xs j b dd fs q1).1, (r.rs.xs j b dd fs q1).2.mono mz fun _ z => z⟩
      · rcases hget q with ⟨_, q1⟩ | ⟨n1, q1⟩
        · cases q1
        · exact r.nw j d' b q1 q'
@[simp] def frzs : List Nat → Sls → Sls
  | [], env => env
  | i :: l, env => frzs l (frz1 i env)
theorem RT.frzs {env : Sls} {σ : St} {H : Hp} : ∀ (l : List Nat) {R : Rg} {env : Sls}, RT X κ R0 R env σ H → ∃ R', RT X κ R0 R' (frzs l env) σ H ∧ Sta R H R' H
  | [], R, _, r => ⟨R, r, .refl R H⟩
  | i :: l, R, env, r => by
    obtain ⟨R1, r1, y1⟩ := r.frz i
    obtain ⟨R2, r2, y2⟩ := RT.frzs (env := frz1 i env) l r1
    exact ⟨R2, r2, y1.trans y2⟩
/-- ahead of a statement some slots' own are let go -/
@[simp] def wFrz (l : List Nat) (a : WS) : WS := fun D env => a D (frzs l env)
theorem ss_frz (l : List Nat) (h : SS X κ W R0 st wa) : SS X κ W R0 st (wFrz l wa) := ps_of h fun D σ H ⟨R, env, DS, rt, h, so⟩ => by
  obtain ⟨R1, r1, y1⟩ := RT.frzs (env := env) l rt
  exact ⟨R1, _, DS, r1, h, so.go y1⟩
end
end Kn
namespace Kn
open PySem PySem.Spec L2

/-! ### targets -/
abbrev WG := D → Sls → (Sls → Prop) → Prop
abbrev WGs := List D → Sls → (Sls → Prop) → Prop
/-- what a target has set: slots of ts alone, values for good -/
structure Asg (ts : List Nat) (env : Sls) (σ : St) (env' : Sls) (σ' : St) : Prop where
  len : σ'.length = σ.length
  out : ∀ j, j ∉ ts → σ'[j]? = σ[j]? ∧ env'[j]? = env[j]?
  own : ∀ (j : Nat) (d : D), env'[j]? = some (.own d) → env[j]? = some (.own d) ∧ σ'[j]? = σ[j]?
theorem Asg.refl {ts : List Nat} {env : Sls} {σ : St} : Asg ts env σ env σ := ⟨rfl, fun _ _ => ⟨rfl, rfl⟩, fun _ _ h => ⟨h, rfl⟩⟩
theorem Asg.trans {ts ts' : List Nat} {e1 e2 e3 : Sls} {s1 s2 s3 : St} (a : Asg ts e1 s1 e2 s2) (b : Asg ts' e2 s2 e3 s3) : Asg (ts ++ ts') e1 s1 e3 s3 := by
  refine ⟨b.len.trans a.len, fun j h => ?_, fun j d h => ?_⟩
  · have h1 : j ∉ ts := fun z => h (List.mem_append_left _ z)
    have h2 : j ∉ ts' := fun z => h (List.mem_append_right _ z)
    exact ⟨(b.out j h2).1.trans (a.out j h1).1, (b.out j h2).2.trans (a.out j h1).2⟩
  · obtain ⟨q1, q2⟩ := b.own j d h
    obtain ⟨q3, q4⟩ := a.own j d q1
    exact ⟨q3, q2.trans q4⟩
section
variable (X : Cx) (κ : BoxKit)
def tG (ts : List Nat) (w : WG) : TG := fun v σ H Q => ∃ (R : Rg) (env : Sls) (d : D) (nx : Sls → Prop), RS X.K κ R env σ H ∧ Rep X.K R H v d ∧ w d env nx ∧
  ∀ (env' : Sls) (σ' : St), RS X.K κ R env' σ' H → Asg ts env σ env' σ' → nx env' → Q σ' H
def tGs (ts : List Nat) (w : WGs) : TGs := fun vs σ H Q => ∃ (R : Rg) (env : Sls) (ds : List D) (nx : Sls → Prop), RS X.K κ R env σ H ∧ RepL X.K R H vs ds ∧ w ds env nx ∧
  ∀ (env' : Sls) (σ' : St), RS X.K κ R env' σ' H → Asg ts env σ env' σ' → nx env' → Q σ' H
abbrev SG (e : Expr) (ts : List Nat) (w : WG) : Prop := PG X e (tG X κ ts w)
abbrev SGs (es : List Expr) (ts : List Nat) (w : WGs) : Prop := PGs X es (tGs X κ ts w)
end
section
variable {X : Cx} {κ : BoxKit} {W : WX} {R0 : Bg}
theorem pg_of {e : Expr} {t t' : TG} (h : PG X e t) (i : ∀ v σ H Q, t' v σ H Q → t v σ H Q) : PG X e t' := ⟨fun pins s σ H v u Q I r hw => h.run pins s σ H v u Q I r (i v σ H Q hw)⟩
theorem pgs_of {es : List Expr} {t t' : TGs} (h : PGs X es t) (i : ∀ v σ H Q, t' v σ H Q → t v σ H Q) : PGs X es t' := ⟨fun pins s σ H vs us Q I r hw => h.run pins s σ H vs us Q I r (i vs σ H Q hw)⟩
@[simp] def gN (i : Nat) : WG := fun d env nx => nx (env.set i (.val d))
theorem asg_set {i : Nat} {d : D} {v : V} {env : Sls} {σ : St} : Asg [i] env σ (env.set i (.val d)) (σ.set i (some v)) := by
  refine ⟨by simp, fun j h => ?_, fun j d' h => ?_⟩
  · have n : i ≠ j := fun z => h (by simp [z])
    exact ⟨List.getElem?_set_ne n, List.getElem?_set_ne n⟩
  · rcases set_get h with ⟨_, q⟩ | ⟨n, q⟩
    · cases q
    · exact ⟨q, List.getElem?_set_ne (Ne.symm n)⟩
theorem sg_name {i : Nat} {x : Str} {pos : Pos} (hN : X.N.Nodup) (hi : X.N[i]? = some x := by rfl) (hx : Loc X.env.scope x := by first | exact Or.inl rfl | exact Or.inr rfl) (hf : X.fn x = true ∨ X.env.scope.names.lookup x = some .local := by first | exact .inl rfl | exact .inr rfl) : SG X κ (.Name x pos) [i] (gN i) :=
  pg_of (pg_name hN hi hx hf) fun v σ H Q ⟨R, env, d, nx, rs, r, h, hq⟩ => hq _ _ (rs.setF r i) asg_set h
def gsNil : WGs := fun ds env nx => ds = [] ∧ nx env
def gsCons (g : WG) (gs : WGs) : WGs := fun ds env nx => ∃ d r, ds = d :: r ∧ g d env fun env' => gs r env' nx
theorem sgs_nil : SGs X κ [] [] gsNil := pgs_of pgs_nil fun vs σ H Q ⟨R, env, ds, nx, rs, r, ⟨e, h⟩, hq⟩ => by
  subst e
  exact ⟨RepL.nil_iff.mp r, hq env σ rs .refl h⟩
theorem sgs_cons {e : Expr} {es : List Expr} {ts ts' : List Nat} {g : WG} {gs : WGs} (h1 : SG X κ e ts g) (h2 : SGs X κ es ts' gs) (hs : (assignEach (e :: es) X.env).map (·.2) = assign e X.env :: (assignEach es X.env).map (·.2) := by rfl) : SGs X κ (e :: es) (ts ++ ts') (gsCons g gs) := by
  refine pgs_of (pgs_cons h1 h2 hs) fun vs σ H Q ⟨R, env, ds, nx, rs, r, h, hq⟩ => ?_
  obtain ⟨d, ds', rfl, h⟩ := h
  obtain ⟨v, vs', rfl, r1, r2⟩ := r.cases
  refine ⟨v, vs', rfl, R, env, d, _, rs, r1, h, fun env' σ' rs' a q => ?_⟩
  exact ⟨R, env', ds', nx, rs', r2, q, fun env2 σ2 rs2 a2 q2 => hq env2 σ2 rs2 (a.trans a2) q2⟩
/-- (a, b, ..): of a tuple of so many -/
def gT (n : Nat) (gs : WGs) : WG := fun d env nx => ∃ ds, d = .tup ds ∧ ds.length = n ∧ gs ds env nx
theorem sg_tup {es : List Expr} {k n : Nat} {ts : List Nat} {gs : WGs} {pos : Pos} (hc : X.calm = true) (h : SGs X κ es ts gs) (hn : (assignEach es X.env).length = n := by rfl) (hst : (assignEach es X.env).findIdx? (·.1) = none := by rfl) : SG X κ (.Tuple es k pos) ts (gT n gs) := by
  refine pg_of (pg_tup hc h hn hst) fun v σ H Q ⟨R, env, d, nx, rs, r, hw, hq⟩ => ?_
  obtain ⟨ds, rfl, hl, hw⟩ := hw
  unfold Rep at r
  obtain ⟨a, vs, rfl, t, r⟩ := r
  exact ⟨a, vs, rfl, t.sq, by rw [r.len]; exact hl, R, env, ds, nx, rs, r, hw, hq⟩
/-- a, b, .. of a list of so many -/
def gL (n : Nat) (gs : WGs) : WG := fun d env nx => ∃ ds, d = .lst ds ∧ ds.length = n ∧ gs ds env nx
theorem sg_lst {es : List Expr} {k n : Nat} {ts : List Nat} {gs : WGs} {pos : Pos} (hc : X.calm = true) (h : SGs X κ es ts gs) (hn : (assignEach es X.env).length = n := by rfl) (hst : (assignEach es X.env).findIdx? (·.1) = none := by rfl) : SG X κ (.Tuple es k pos) ts (gL n gs) := by
  refine pg_of (pg_lst hc h hn hst) fun v σ H Q ⟨R, env, d, nx, rs, r, hw, hq⟩ => ?_
  obtain ⟨ds, rfl, hl, hw⟩ := hw
  unfold Rep at r
  obtain ⟨a, vs, rfl, t, r⟩ := r
  exact ⟨a, vs, rfl, t.sq, by rw [r.len]; exact hl, R, env, ds, nx, rs, r, hw, hq⟩
theorem RT.asg {R : Rg} {env env' : Sls} {σ σ' : St} {H : Hp} {ts : List Nat} (r : RT X κ R0 R env σ H) (rs : RS X.K κ R env' σ' H) (a : Asg ts env σ env' σ') : RT X κ R0 R env' σ' H :=
  ⟨rs, r.ext, fun i d b h1 h2 => by
    obtain ⟨q1, q2⟩ := a.own i d h1
    exact r.nw i d b q1 (q2 ▸ h2)⟩
variable {e : Expr} {we : WE} {pos : Pos}

/-! ### what a loop walks -/
/-- J yields ds, whatever else becomes of the heap behind R H -/
def Itm (K : PySem.W.Frag) (κ : BoxKit) (J : It) (R : Rg) (H : Hp) (ds : List D) : Prop := ∀ (R' : Rg) (H' : Hp), Sta R H R' H' → Rok κ R' H' →
  (∀ i, i < ds.length → J.go i H' ∧ ∀ x H'', J.yld i H' x H'' → ∃ R'', Ext R' H' R'' H'' ∧ Rok κ R'' H'' ∧ ∃ d, ds[i]? = some d ∧ Rep K R'' H'' x d) ∧ J.stop ds.length H'
abbrev WI := Sls → (List D → Prop) → XD → Prop
def tI (X : Cx) (κ : BoxKit) (W : WX) (w : WI) : TI := fun σ H Rr => ∃ (R : Rg) (env : Sls) (Qd : List D → Prop) (Ed : XD), RS X.K κ R env σ H ∧ w env Qd Ed ∧
  (∀ (ds : List D) (J : It) (R' : Rg) (H' : Hp), Ext R H R' H' → Rok κ R' H' → Itm X.K κ J R' H' ds → Qd ds → Rr J H') ∧ XOk X κ W σ R H Ed
abbrev SI (X : Cx) (κ : BoxKit) (W : WX) (tg iter : Expr) (w : WI) : Prop := PI X tg iter (tI X κ W w)
theorem pi_of {tg iter : Expr} {t t' : TI} (h : PI X tg iter t) (i : ∀ σ H Q, t' σ H Q → t σ H Q) : PI X tg iter t' := ⟨fun pins s σ H Q I hw => h.run pins s σ H Q I (i σ H Q hw)⟩
theorem Itm.list {R : Rg} {H : Hp} {a : Addr} {vs : List V} {ds : List D} (t : LAt R H a vs) (r : RepL X.K R H vs ds) : Itm X.K κ (Itl X.K a) R H ds := fun R' H' x ok' => by
  have t' := t.sta x
  have r' := r.sta x
  refine ⟨fun i hi => ?_, ⟨vs, t'.sq, by rw [r.len]; exact Nat.le_refl _⟩⟩
  obtain ⟨v, e1, e2⟩ := r'.get (List.getElem?_eq_getElem hi)
  refine ⟨⟨vs, v, t'.sq, e1⟩, fun y H'' ⟨eh, hy⟩ => ?_⟩
  subst eh
  rw [hy vs t'.sq] at e1
  cases e1
  exact ⟨R', .refl _ _, ok', _, List.getElem?_eq_getElem hi, e2⟩
theorem Itm.tup {R : Rg} {H : Hp} {a : Addr} {vs : List V} {ds : List D} (t : TAt X.K R H a vs) (r : RepL X.K R H vs ds) : Itm X.K κ (Itt X.K a) R H ds := fun R' H' x ok' => by
  have t' := t.sta x
  have r' := r.sta x
  refine ⟨fun i hi => ?_, ⟨vs, t'.sq, by rw [r.len]; exact Nat.le_refl _⟩⟩
  obtain ⟨v, e1, e2⟩ := r'.get (List.getElem?_eq_getElem hi)
  refine ⟨⟨vs, v, t'.sq, e1⟩, fun y H'' ⟨eh, hy⟩ => ?_⟩
  subst eh
  rw [hy vs t'.sq] at e1
  cases e1
  exact ⟨R', .refl _ _, ok', _, List.getElem?_eq_getElem hi, e2⟩
def rangeD (lo : Int) (n : Nat) : List D := (List.range n).map fun (i : Nat) => D.int (lo + (i : Int))
theorem Itm.range {R : Rg} {H : Hp} {lo : Int} {n : Nat} : Itm X.K κ (Itr lo n) R H (rangeD lo n) := fun R' H' x ok' => by
  have hl : (rangeD lo n).length = n := by simp [rangeD]
  refine ⟨fun i hi => ⟨by rw [hl] at hi; exact hi, fun y H'' ⟨eh, hy⟩ => ?_⟩, by rw [hl]; exact Nat.le_refl _⟩
  subst eh hy
  rw [hl] at hi
  exact ⟨R', .refl _ _, ok', D.int (lo + (i : Int)), by simp [rangeD, hi], rep_int⟩
/-- one value, frozen where it is new -/
theorem freeze1 {R0 R : Rg} {env : Sls} {σ : St} {H₀ H : Hp} {v : V} {d : D} {k : Kd} (ok : Rok κ R H) (x : Ext R0 H₀ R H) (h : RepK X.K R env σ H₀ H v d k) (nb : k ≠ .bor) : ∃ R1, Ext R0 H₀ R1 H ∧ Rok κ R1 H ∧ Rep X.K R1 H v d ∧ (∀ a, R.Z a → R1.Z a) ∧ (∀ a, R1.B a ↔ R.B a) ∧ (∀ a, R1.rt a ↔ R.rt a) ∧ (∀ a, R1.Z a → R.Z a ∨ H₀ a = none) := by
  obtain ⟨R1, x1, ok1, r1, m⟩ := freeze (ds := [(d, k)]) ok x (.cons h (fun _ j q e => by simp at e) .nil) fun p hp q e => by
    have e2 : p = (d, k) := by simpa using hp
    rw [e2] at e
    exact nb (by cases e; rfl)
  obtain ⟨u, us, e, r2, _⟩ := r1.cases
  cases e
  exact ⟨R1, x1, ok1, r2, m⟩
/-- target = e -/
@[simp] def wAsg (a : WE) (g : WG) : WS := fun D env => a env (fun d k => k ≠ .bor ∧ g d env D.nx) (fun c fs => D.ex c fs env)
theorem ss_asg {tg : Expr} {ts : List Nat} {g : WG} (he : SE X κ W e we) (hg : SG X κ tg ts g) (hs : swapsWithSole [tg] e pos.line X.env = pure false := by rfl) (hw : swappedStores [tg] e X.env = pure none := by rfl)
    (h1 : (assignEach [tg] X.env).map (·.2) = [assign tg X.env] := by rfl) : SS X κ W R0 (.Assign [tg] e pos) (wAsg we g) := by
  refine ps_of (ps_asg he hg hs hw h1) fun D σ H ⟨R, env, DS, rt, h, so⟩ => ?_
  refine ⟨R, env, _, _, rt.rs, h, fun d k v R1 H1 x1 ok1 r1 ⟨hk, q⟩ => ?_, so.xok rt⟩
  obtain ⟨R2, x2, ok2, r2, _⟩ := freeze1 ok1 x1 r1 hk
  have rt1 := rt.go x2 ok2
  exact ⟨R2, env, d, _, rt1.rs, r2, q, fun env' σ' rs' a q' => so.nx R2 env' σ' H1 (RT.asg (X := X) rt1 rs' a) (x2.sta rt.rs.ok) q'⟩

def iLst (a : WE) : WI := fun env Q E => a env (fun d k => k ≠ .bor ∧ ∃ ds, d = .lst ds ∧ Q ds) E
def iTpl (a : WE) : WI := fun env Q E => a env (fun d k => k ≠ .bor ∧ ∃ ds, d = .tup ds ∧ Q ds) E
theorem si_list {tg : Expr} (he : SE X κ W e we) : SI X κ W tg e (iLst we) := by
  refine pi_of (pi_list he) fun σ H Rr ⟨R, env, Qd, Ed, rs, h, hq, hx⟩ => ?_
  refine ⟨R, env, _, _, rs, h, fun d k v R1 H1 x1 ok1 r1 ⟨nb, ds, hd, q⟩ => ?_, hx⟩
  subst hd
  obtain ⟨R2, x2, ok2, r2, _⟩ := freeze1 ok1 x1 r1 nb
  unfold Rep at r2
  obtain ⟨a, vs, rfl, t, r⟩ := r2
  exact ⟨a, rfl, ⟨vs, t.sq⟩, hq ds _ R2 H1 x2 ok2 (Itm.list t r) q⟩
theorem si_tup {tg : Expr} (he : SE X κ W e we) : SI X κ W tg e (iTpl we) := by
  refine pi_of (pi_tup he) fun σ H Rr ⟨R, env, Qd, Ed, rs, h, hq, hx⟩ => ?_
  refine ⟨R, env, _, _, rs, h, fun d k v R1 H1 x1 ok1 r1 ⟨nb, ds, hd, q⟩ => ?_, hx⟩
  subst hd
  obtain ⟨R2, x2, ok2, r2, _⟩ := freeze1 ok1 x1 r1 nb
  unfold Rep at r2
  obtain ⟨a, vs, rfl, t, r⟩ := r2
  exact ⟨a, rfl, ⟨vs, t.sq⟩, hq ds _ R2 H1 x2 ok2 (Itm.tup t r) q⟩
def smallI (i : Int) : Prop := -(2 ^ 62) ≤ i ∧ i < 2 ^ 62
@[simp] def iRng1 (a : WA) : WI := fun env Q E => a env (fun ds => ∃ j, ds.map (·.1) = [.int j] ∧ smallI j ∧ Q (rangeD 0 j.toNat)) E
@[simp] def iRng2 (a : WA) : WI := fun env Q E => a env (fun ds => ∃ i j, ds.map (·.1) = [.int i, .int j] ∧ smallI i ∧ smallI j ∧ Q (rangeD i (j - i).toNat)) E
theorem Vw.int {K : PySem.W.Frag} {R : Rg} {H : Hp} {v : V} {i : Int} (h : Vw K R H v (.int i)) : v = .int i := by
  cases h with
  | rep h => unfold Rep at h; exact h
theorem Vw.str {K : PySem.W.Frag} {R : Rg} {H : Hp} {v : V} {s : Str} (h : Vw K R H v (.str s)) : v = .str s := by
  cases h with
  | rep h => unfold Rep at h; exact h
theorem Vw.non {K : PySem.W.Frag} {R : Rg} {H : Hp} {v : V} (h : Vw K R H v .non) : v = .non := by
  cases h with
  | rep h => unfold Rep at h; exact h
theorem Vw.tup {K : PySem.W.Frag} {R : Rg} {H : Hp} {v : V} {ds : List D} (h : Vw K R H v (.tup ds)) : ∃ a vs, v = .ref a ∧ TAt K R H a vs ∧ RepL K R H vs ds := by
  cases h with
  | rep h => unfold Rep at h; exact h
theorem Vw.lst' {K : PySem.W.Frag} {R : Rg} {H : Hp} {v : V} {ds : List D} (h : Vw K R H v (.lst ds)) : ∃ a vs, v = .ref a ∧ H a = some (.lst vs) ∧ RepL K R H vs ds := by
  cases h with
  | rep h =>
    unfold Rep at h
    obtain ⟨a, vs, e, t, r⟩ := h
    exact ⟨a, vs, e, t.1, r⟩
  | lst e r => exact ⟨_, _, rfl, e, r⟩
theorem VwL.cases {K : PySem.W.Frag} {R : Rg} {H : Hp} {vs : List V} {d : D} {ds : List D} (h : VwL K R H vs (d :: ds)) : ∃ v r, vs = v :: r ∧ Vw K R H v d ∧ VwL K R H r ds := by
  cases h with
  | cons h t => exact ⟨_, _, rfl, h, t⟩
theorem VwL.nil' {K : PySem.W.Frag} {R : Rg} {H : Hp} {vs : List V} (h : VwL K R H vs []) : vs = [] := by
  cases h
  rfl
theorem VwL.one {K : PySem.W.Frag} {R : Rg} {H : Hp} {vs : List V} {d : D} (h : VwL K R H vs [d]) : ∃ v, vs = [v] ∧ Vw K R H v d := by
  obtain ⟨v, r, rfl, h1, h2⟩ := h.cases
  rw [h2.nil']
  exact ⟨v, rfl, h1⟩
theorem VwL.two {K : PySem.W.Frag} {R : Rg} {H : Hp} {vs : List V} {d e : D} (h : VwL K R H vs [d, e]) : ∃ v u, vs = [v, u] ∧ Vw K R H v d ∧ Vw K R H u e := by
  obtain ⟨v, r, rfl, h1, h2⟩ := h.cases
  obtain ⟨u, rfl, h3⟩ := h2.one
  exact ⟨v, u, rfl, h1, h3⟩
theorem si_range1 {tg a : Expr} {wa : WA} {p : Pos} (hg : Gl X "range") (hm : X.mg "range" = none) (ha : SA X κ W [a] wa) (hs : starEach [a] X.env = [(false, eval a X.env)] := by rfl) : SI X κ W tg (.Call (.Name "range" p) [a] [] pos) (iRng1 wa) := by
  refine pi_of (pi_range1 hg hm ha hs) fun σ H Rr ⟨R, env, Qd, Ed, rs, h, hq, hx⟩ => ?_
  refine ⟨R, env, _, _, rs, h, fun ds vs R1 H1 x1 ok1 r1 ⟨j, hd, sj, q⟩ => ?_, hx⟩
  have r2 := r1.vw
  rw [hd] at r2
  obtain ⟨v, rfl, r3⟩ := r2.one
  exact ⟨j, by rw [r3.int], sj.1, sj.2, hq _ _ R1 H1 x1 ok1 Itm.range q⟩
theorem si_range2 {tg a b : Expr} {wa : WA} {p : Pos} (hg : Gl X "range") (hm : X.mg "range" = none) (ha : SA X κ W [a, b] wa) (hs : starEach [a, b] X.env = [(false, eval a X.env), (false, eval b X.env)] := by rfl) (hs2 : starEach [b] X.env = [(false, eval b X.env)] := by rfl) : SI X κ W tg (.Call (.Name "range" p) [a, b] [] pos) (iRng2 wa) := by
  refine pi_of (pi_range2 hg hm ha hs hs2) fun σ H Rr ⟨R, env, Qd, Ed, rs, h, hq, hx⟩ => ?_
  refine ⟨R, env, _, _, rs, h, fun ds vs R1 H1 x1 ok1 r1 ⟨i, j, hd, si, sj, q⟩ => ?_, hx⟩
  have r2 := r1.vw
  rw [hd] at r2
  obtain ⟨v, u, rfl, r3, r4⟩ := r2.two
  exact ⟨i, j, by rw [r3.int, r4.int], ⟨si.1, si.2, sj.1, sj.2⟩, hq _ _ R1 H1 x1 ok1 Itm.range q⟩

/-! ### for, while -/
@[simp] def wLoop (g : WG) (b : WS) (De : EndD) : List D → Sls → Prop
  | [], env => De.nx env
  | d :: ds, env => g d env fun env' => b { De with nx := wLoop g b De ds, ct := wLoop g b De ds, bk := De.nx } env'
@[simp] def wFor (i : WI) (g : WG) (b : WS) : WS := fun D env => i env (fun ds => wLoop g b D ds env) (fun c fs => D.ex c fs env)
variable {wb : WS}
theorem ss_for {tg iter : Expr} {body : List Stmt} {wi : WI} {ts : List Nat} {g : WG} (hp : PassesOwn (model X.prog X.w) X.A X.env X.xe) (hc : X.calm = true) (hi : SI X κ W tg iter wi) (hg : SG X κ tg ts g) (hb : SSs X κ W R0 body wb)
    (hs : ∀ x, foldedSetIterable iter X.env x = pure x := by intro _; rfl) : SS X κ W R0 (.For tg iter body [] pos) (wFor wi g wb) := by
  refine ps_of (ps_for hp hc hi hg hb hs) fun De σ H ⟨R, env, DS, rt, h, so⟩ => ?_
  refine ⟨R, env, _, _, rt.rs, h, fun ds J R1 H1 x1 ok1 it q => ?_, so.xok rt⟩
  have y1 := x1.sta rt.rs.ok
  refine ⟨fun i m σ H => m = ds.length - i ∧ i ≤ ds.length ∧ ∃ R2 env2, RT X κ R0 R2 env2 σ H ∧ Sta R1 H1 R2 H ∧ wLoop g wb DS (ds.drop i) env2, ⟨_, rfl, Nat.zero_le _, R1, env, rt.go x1 ok1, .refl _ _, by simpa using q⟩, ?_⟩
  rintro i m σ2 H2 ⟨rfl, hi, R2, env2, rt2, y2, q2⟩
  obtain ⟨go, stop⟩ := it R2 H2 y2 rt2.rs.ok
  by_cases hlt : i < ds.length
  · refine .inr ⟨(go i hlt).1, fun σ' H' => ∃ R3 env3, RT X κ R0 R3 env3 σ' H' ∧ Sta R1 H1 R3 H' ∧ wLoop g wb DS (ds.drop (i + 1)) env3, fun σ' H' ⟨R3, env3, rt3, x3, q3⟩ => ⟨ds.length - (i + 1), by omega, rfl, hlt, R3, env3, rt3, x3, q3⟩, fun y H3 hy => ?_⟩
    obtain ⟨R3, x3, ok3, d, hd, rd⟩ := (go i hlt).2 y H3 hy
    have e1 : ds.drop i = d :: ds.drop (i + 1) := by
      rw [List.drop_eq_getElem_cons hlt]
      rw [List.getElem?_eq_getElem hlt] at hd
      cases hd
      rfl
    rw [e1] at q2
    have rt3 := rt2.go x3 ok3
    have y3 := y2.trans (x3.sta rt2.rs.ok)
    refine ⟨R3, env2, d, _, rt3.rs, rd, q2, fun env4 σ4 rs4 a4 q4 => ?_⟩
    refine ⟨R3, env4, _, rt3.asg rs4 a4, q4, ?_⟩
    refine ⟨fun R5 env5 σ5 H5 r5 y5 q5 => ⟨R5, env5, r5, y3.trans y5, q5⟩, fun R5 env5 σ5 H5 r5 y5 q5 => so.nx R5 env5 σ5 H5 r5 (y1.trans (y3.trans y5)) q5, fun R5 env5 σ5 H5 r5 y5 q5 => ⟨R5, env5, r5, y3.trans y5, q5⟩,
      fun R5 env5 σ5 H5 d5 k5 v5 o5 y5 r5 q5 => so.rt R5 env5 σ5 H5 d5 k5 v5 o5 (y1.trans (y3.trans y5)) r5 q5, fun R5 env5 σ5 H5 c fs cls dd r5 y5 rx q5 => so.ex R5 env5 σ5 H5 c fs cls dd r5 (y1.trans (y3.trans y5)) rx q5⟩
  · have e : i = ds.length := by omega
    subst e
    exact .inl ⟨stop, so.nx R2 env2 σ2 H2 rt2 (y1.trans y2) (by simpa [wLoop] using q2)⟩
/-- while: by a word and a measure -/
def wWhile (c : WB) (b : WS) : WS := fun D env => ∃ I : Nat → Sls → Prop, (∃ m, I m env) ∧ ∀ m env, I m env → c env (fun k => if k = true then b { D with nx := fun e => ∃ m', m' < m ∧ I m' e, ct := fun e => ∃ m', m' < m ∧ I m' e, bk := D.nx } env else D.nx env) (fun x fs => D.ex x fs env)
theorem ss_while {c : Expr} {body : List Stmt} {wc : WB} (hp : PassesOwn (model X.prog X.w) X.A X.env X.xe) (hc : ST X κ W c wc) (hb : SSs X κ W R0 body wb) : SS X κ W R0 (.While c body [] pos) (wWhile wc wb) := by
  refine ps_of (ps_while hp hc hb) fun De σ H ⟨R, env, DS, rt, ⟨I, ⟨m0, i0⟩, turn⟩, so⟩ => ?_
  refine ⟨fun m σ H' => ∃ R2 env2, RT X κ R0 R2 env2 σ H' ∧ Sta R H R2 H' ∧ I m env2, ⟨m0, R, env, rt, .refl _ _, i0⟩, ?_⟩
  rintro m σ2 H2 ⟨R2, env2, rt2, y2, i2⟩
  refine ⟨R2, env2, _, _, rt2.rs, turn m env2 i2, fun k R3 H3 x3 ok3 q3 => ?_, (so.go y2).xok rt2⟩
  have y3 := y2.trans (x3.sta rt2.rs.ok)
  cases k with
  | false => exact iteF (so.nx R3 env2 σ2 H3 (rt2.go x3 ok3) y3 (by simpa using q3))
  | true =>
    refine iteT ⟨fun σ' H' => ∃ R4 env4, RT X κ R0 R4 env4 σ' H' ∧ Sta R H R4 H' ∧ ∃ m', m' < m ∧ I m' env4, fun σ' H' ⟨R4, env4, r4, y4, m', hm, i4⟩ => ⟨m', hm, R4, env4, r4, y4, i4⟩, R3, env2, _, rt2.go x3 ok3, by simpa using q3, ?_⟩
    exact ⟨fun R5 env5 σ5 H5 r5 y5 q5 => ⟨R5, env5, r5, y3.trans y5, q5⟩, fun R5 env5 σ5 H5 r5 y5 q5 => so.nx R5 env5 σ5 H5 r5 (y3.trans y5) q5, fun R5 env5 σ5 H5 r5 y5 q5 => ⟨R5, env5, r5, y3.trans y5, q5⟩,
      fun R5 env5 σ5 H5 d5 k5 v5 o5 y5 r5 q5 => so.rt R5 env5 σ5 H5 d5 k5 v5 o5 (y3.trans y5) r5 q5, fun R5 env5 σ5 H5 c fs cls dd r5 y5 rx q5 => so.ex R5 env5 σ5 H5 c fs cls dd r5 (y3.trans y5) rx q5⟩
end
end Kn
namespace Kn
open PySem PySem.Spec L2

/-! ### comprehensions -/
@[simp] def wipeS (env : Sls) : List Nat → Sls
  | [] => env
  | v :: vs => (wipeS env vs).set v .un
theorem RS.setU {K : PySem.W.Frag} {κ : BoxKit} {R : Rg} {env : Sls} {σ : St} {H : Hp} (r : RS K κ R env σ H) (i : Nat) : RS K κ R (env.set i .un) (σ.set i none) H := by
  refine ⟨r.ok, by simpa using r.len, fun j d' e => ?_, fun j d' e => ?_, fun j l d' e' a h1 h2 h3 h4 => ?_, fun j a dd fs e => ?_⟩
  · rcases set_get e with ⟨_, q⟩ | ⟨n, q⟩
    · cases q
    · obtain ⟨u, e1, e2⟩ := r.sl j d' q
      exact ⟨u, by rw [List.getElem?_set_ne (Ne.symm n)]; exact e1, e2⟩
  · rcases set_get e with ⟨_, q⟩ | ⟨n, q⟩
    · cases q
    · obtain ⟨u, e1, e2⟩ := r.ow j d' q
      exact ⟨u, by rw [List.getElem?_set_ne (Ne.symm n)]; exact e1, e2⟩
  · rcases set_get h1 with ⟨_, q⟩ | ⟨n1, q1⟩
    · cases q
    · rcases set_get h2 with ⟨_, q⟩ | ⟨n2, q2⟩
      · cases q
      · rw [List.getElem?_set_ne (Ne.symm n1)] at h3
        rw [List.getElem?_set_ne (Ne.symm n2)] at h4
        exact r.ne j l d' e' a q1 q2 h3 h4
  · rcases set_get e with ⟨_, q⟩ | ⟨n, q⟩
    · cases q
    · exact ⟨by rw [List.getElem?_set_ne (Ne.symm n)]; exact (r.xs j _ dd fs q).1, (r.xs j _ dd fs q).2⟩
theorem RS.wipe {K : PySem.W.Frag} {κ : BoxKit} {R : Rg} {env : Sls} {σ : St} {H : Hp} (r : RS K κ R env σ H) : ∀ vs : List Nat, RS K κ R (wipeS env vs) (L2.wipe σ vs) H
  | [] => r
  | v :: vs => (r.wipe vs).setU v
theorem wipe_at {σ : St} {j : Nat} : ∀ {vs : List Nat}, (L2.wipe σ vs)[j]? = if j ∈ vs then (if j < σ.length then some none else none) else σ[j]?
  | [] => by simp [L2.wipe]
  | v :: vs => by
    unfold L2.wipe
    have ih := wipe_at (σ := σ) (j := j) (vs := vs)
    have hl := L2.wipe_length σ vs
    by_cases e : j = v
    · subst e
      by_cases hj : j < σ.length
      · rw [List.getElem?_set_self (by rw [hl]; exact hj)]
        simp [hj]
      · rw [List.getElem?_eq_none (by simpa [hl] using hj)]
        simp [hj]
    · rw [List.getElem?_set_ne (Ne.symm e), ih]
      simp [e]
theorem wipe_eq {σ σ' : St} {vs : List Nat} (hl : σ'.length = σ.length) (h : ∀ j, j ∉ vs → σ'[j]? = σ[j]?) : L2.wipe σ' vs = L2.wipe σ vs := by
  refine List.ext_getElem? fun j => ?_
  rw [wipe_at, wipe_at, hl]
  split
  · rfl
  · rename_i hj
    exact h j hj
/-- an object of our own is changed -/
theorem ext_upd {κ : BoxKit} {R0 R : Rg} {H₀ H : Hp} (ok : Rok κ R H) (x : Ext R0 H₀ R H) {p : Addr} {o : HO} (n : H₀ p = none) (nz : ¬ R.Z p) (nb : ¬ R.B p) : Ext R0 H₀ R (upd H p o) ∧ Rok κ R (upd H p o) ∧ Sta R H R (upd H p o) := by
  have ne : ∀ a u, H₀ a = some u → a ≠ p := fun a u e z => by rw [z, n] at e; cases e
  refine ⟨⟨fun a u e b => by rw [upd_ne (ne a u e)]; exact x.keep a u e b, fun a u e => by rw [upd_ne (ne a u e)]; exact x.dom a u e, x.zs, x.zn, x.bn, x.rts⟩, ⟨fun a z => ?_, ok.zb, ?_⟩, ⟨fun a u z e => ?_, fun _ z => z, fun _ z => z⟩⟩
  · obtain ⟨u, e⟩ := ok.zin a z
    exact ⟨u, by rw [upd_ne (fun q => nz (by rw [← q]; exact z))]; exact e⟩
  · exact κ.frame ok.bi (fun _ => Iff.rfl) (fun _ => Iff.rfl) fun a hb => upd_ne (fun q => nb (by rw [← q]; exact hb))
  · rw [upd_ne (fun q => nz (by rw [← q]; exact z))]
    exact e
@[simp] def lcLoop (vs : List Nat) (g : WG) (t : WB) (e : WE) (Q : QD) (env0 : Sls) : List D → List D → Prop
  | [], acc => Q (.lst acc) .own
  | d :: ds, acc => g d env0 fun env' => t env' (fun b => if b = true then e env' (fun y k => k ≠ .bor ∧ acc.length < sizeLine ∧ lcLoop vs g t e Q env0 ds (acc ++ [y])) (fun _ _ => False) else lcLoop vs g t e Q env0 ds acc) (fun _ _ => False)
@[simp] def wLc (vs : List Nat) (i : WI) (g : WG) (t : WB) (e : WE) : WE := fun env Q E => i env (fun ds => lcLoop vs g t e Q (wipeS env vs) ds []) E
@[simp] def wYes : WB := fun _ Q _ => Q true
abbrev W0 : WX := fun _ _ _ _ => False
section
variable {X : Cx} {κ : BoxKit} {W : WX} {R0 : Bg}
theorem sts_nil : PTs X [] (tT X κ W wYes) := ⟨fun pins s σ H Q I ⟨R, env, Qd, Ed, rs, h, hq, hx⟩ => (pts_nil (X := X)).run pins s σ H Q I (hq true R H (.refl R H) rs.ok h)⟩
theorem sts_one {c : Expr} {w : WB} (h : ST X κ W c w) : PTs X [c] (tT X κ W w) := pts_one h
theorem lc_imp {wi : WI} {g : WG} {wt : WB} {we : WE} {vs ts : List Nat} (hts : ∀ j ∈ ts, j ∈ vs) : ∀ σ H Q, tE X κ W (wLc vs wi g wt we) σ H Q → tLc (tI X κ W wi) (tG X κ ts g) (tT X κ W0 wt) (tE X κ W0 we) vs σ H Q := by
  rintro σ H Q ⟨R, env, Qd, Ed, rs, h, hq, hx⟩
  refine ⟨R, env, _, _, rs, h, fun ds J R1 H1 x1 ok1 it q => ?_, hx⟩
  intro L nL
  obtain ⟨x2, ok2, nz2, nb2⟩ := ext_own ok1 (.lst []) nL
  have nH : H L = none := x1.back nL
  refine ⟨fun i m H2 => m = ds.length - i ∧ i ≤ ds.length ∧ ∃ R2 acc vacc, Ext R H R2 H2 ∧ Sta R1 H1 R2 H2 ∧ Rok κ R2 H2 ∧ ¬ R2.Z L ∧ ¬ R2.B L ∧ H2 L = some (.lst vacc) ∧ RepL X.K R2 H2 vacc acc ∧ lcLoop vs g wt we Qd (wipeS env vs) (ds.drop i) acc,
    ⟨_, rfl, Nat.zero_le _, R1, [], [], x1.trans x2, x2.sta ok1, ok2, nz2, nb2, upd_same, RepL.nil, by simpa using q⟩, ?_⟩
  rintro i m H2 ⟨rfl, hi, R2, acc, vacc, xe2, y2, ok2, nz2, nb2, hL, rL, q2⟩
  obtain ⟨go, stop⟩ := it R2 H2 y2 ok2
  by_cases hlt : i < ds.length
  · refine .inr ⟨(go i hlt).1, fun H' => ∃ R3 acc vacc, Ext R H R3 H' ∧ Sta R1 H1 R3 H' ∧ Rok κ R3 H' ∧ ¬ R3.Z L ∧ ¬ R3.B L ∧ H' L = some (.lst vacc) ∧ RepL X.K R3 H' vacc acc ∧ lcLoop vs g wt we Qd (wipeS env vs) (ds.drop (i + 1)) acc, fun H' ⟨R3, z⟩ => ⟨ds.length - (i + 1), by omega, rfl, hlt, R3, z⟩, fun y H3 hy => ?_⟩
    obtain ⟨R3, x3, ok3, d, hd, rd⟩ := (go i hlt).2 y H3 hy
    have e1 : ds.drop i = d :: ds.drop (i + 1) := by
      rw [List.drop_eq_getElem_cons hlt]
      rw [List.getElem?_eq_getElem hlt] at hd
      cases hd
      rfl
    rw [e1] at q2
    have out : ∀ {Ra Rb : Rg} {Ha Hb : Hp}, Ext Ra Ha Rb Hb → ¬ Ra.Z L → ¬ Ra.B L → Ha L = some (.lst vacc) → ¬ Rb.Z L ∧ ¬ Rb.B L ∧ Hb L = some (.lst vacc) := fun {Ra Rb Ha Hb} x nz nb e =>
      ⟨fun z => (x.zn L z).elim nz (fun z => by rw [e] at z; cases z), fun z => (x.bn L z).elim nb (fun z => by rw [e] at z; cases z), x.keep L _ e nb⟩
    obtain ⟨nz3, nb3, hL3⟩ := out x3 nz2 nb2 hL
    have rs3 := rs.ext (xe2.trans x3) ok3
    refine ⟨R3, wipeS env vs, d, _, rs3.wipe vs, rd, q2, fun env4 σ4 rs4 a4 q4 => ⟨?_, ?_⟩⟩
    · have e2 := wipe_eq (vs := vs) a4.len fun j hj => (a4.out j fun z => hj (hts j z)).1
      rw [e2]
      exact wipe_eq (L2.wipe_length σ vs) fun j hj => by rw [wipe_at, if_neg hj]
    · refine ⟨R3, env4, _, _, rs4, q4, fun b R5 H5 x5 ok5 q5 => ?_, fun _ _ _ _ _ _ _ _ _ z => z⟩
      obtain ⟨nz5, nb5, hL5⟩ := out x5 nz3 nb3 hL3
      have xe5 := (xe2.trans x3).trans x5
      have y5 : Sta R1 H1 R5 H5 := (y2.trans (x3.sta ok2)).trans (x5.sta ok3)
      have rL5 := (rL.ext ok2 x3).ext ok3 x5
      cases b with
      | false => exact iteF ⟨R5, acc, vacc, xe5, y5, ok5, nz5, nb5, hL5, rL5, by simpa using q5⟩
      | true =>
        rw [if_pos rfl] at q5 ⊢
        refine ⟨R5, env4, _, _, rs4.ext x5 ok5, q5, fun u k v R6 H6 x6 ok6 r6 qq => ?_, fun _ _ _ _ _ _ _ _ _ z => z⟩
        obtain ⟨hb, hz, q6⟩ := qq
        obtain ⟨nz6, nb6, hL6⟩ := out x6 nz5 nb5 hL5
        obtain ⟨R7, x7, ok7, r7, z7, b7, t7, n7⟩ := freeze1 ok6 x6 r6 hb
        have nz7 : ¬ R7.Z L := fun z => (n7 L z).elim nz6 fun z => by rw [hL5] at z; cases z
        have nb7 : ¬ R7.B L := fun z => nb6 ((b7 L).mp z)
        have rL7 : RepL X.K R7 H6 vacc acc := (rL5.ext ok5 x6).mono z7 fun r z => (t7 r).mpr z
        obtain ⟨x8, ok8, y8⟩ := ext_upd (o := .lst (vacc ++ [v])) ok7 (xe5.trans x7) nH nz7 nb7
        have y7 : Sta R1 H1 R7 H6 := y5.trans (x7.sta ok5)
        refine ⟨vacc, hL6, by rw [rL7.len]; exact hz, R7, acc ++ [u], vacc ++ [v], x8, y7.trans y8, ok8, nz7, nb7, upd_same, ?_, q6⟩
        exact (rL7.sta y8).concat (r7.sta y8)
  · have e : i = ds.length := by omega
    subst e
    refine .inl ⟨stop, hq (.lst acc) .own _ R2 H2 xe2 ok2 ⟨L, rfl, nH, nz2, nb2, vacc, acc, rfl, hL, rL⟩ ?_⟩
    simpa [lcLoop] using q2
/-- the block's context -/
abbrev bK (X : Cx) (scope : Scope) (s : Shared) (H : Hp) (C : Addr) (cl : List (Str × Addr)) (fp : List Addr) : Cx := X.blk s H scope (compEnvC scope cl C X.env) fp
theorem se_lc {elt tg iter : Expr} {ifs : List Expr} {scope : Scope} {own : List (Str × Nat)} {pos : Pos} {wi : WI} {g : WG} {ts : List Nat} {wt : WB} {we : WE} (hc : X.calm = true) (hN : X.N.Nodup) (hi : SI X κ W tg iter wi) (ok : BlkOk X.N X.env.scope scope own)
    (hg : ∀ s H C cl fp, SG (bK X scope s H C cl fp) κ tg ts g) (ht : ∀ s H C cl fp, PTs (bK X scope s H C cl fp) ifs (tT (bK X scope s H C cl fp) κ W0 wt)) (he : ∀ s H C cl fp, SE (bK X scope s H C cl fp) κ W0 elt we)
    (hts : ∀ j ∈ ts, j ∈ own.map (·.2) := by decide) (hs : ∀ x, foldedSetIterable iter X.env x = pure x := by intro _; rfl) : SE X κ W (.ListComp elt [⟨tg, iter, ifs, 0⟩] scope pos) (wLc (own.map (·.2)) wi g wt we) :=
  pe_of (pe_lc (g := tG X κ ts g) (tt := tT X κ W0 wt) (te := tE X κ W0 we) hc hN hi ok hg ht he hs) (lc_imp hts)
theorem ss_setLc {i : Nat} {y : Str} {py : Pos} {elt tg iter : Expr} {ifs : List Expr} {scope : Scope} {own : List (Str × Nat)} {pos spos : Pos} {wi : WI} {g : WG} {ts : List Nat} {wt : WB} {we : WE} (hc : X.calm = true) (hN : X.N.Nodup) (hi : SI X κ W tg iter wi) (ok : BlkOk X.N X.env.scope scope own)
    (hg : ∀ s H C cl fp, SG (bK X scope s H C cl fp) κ tg ts g) (ht : ∀ s H C cl fp, PTs (bK X scope s H C cl fp) ifs (tT (bK X scope s H C cl fp) κ W0 wt)) (he : ∀ s H C cl fp, SE (bK X scope s H C cl fp) κ W0 elt we)
    (hsw : swapsWith (.ListComp elt [⟨tg, iter, ifs, 0⟩] scope pos) (some (.Name y py)) spos.line X.env = pure true) (hy : X.N[i]? = some y := by rfl) (hyl : X.env.scope.names.lookup y = some .local := by rfl)
    (hts : ∀ j ∈ ts, j ∈ own.map (·.2) := by decide) (hs : ∀ x, foldedSetIterable iter X.env x = pure x := by intro _; rfl) : SS X κ W R0 (.Assign [.Name y py] (.ListComp elt [⟨tg, iter, ifs, 0⟩] scope pos) spos) (wSet i (wLc (own.map (·.2)) wi g wt we)) := by
  refine ps_of (ps_setLc (g := tG X κ ts g) (tt := tT X κ W0 wt) (te := tE X κ W0 we) hc hN hy hyl hsw hi ok hg ht he hs) fun D σ H ⟨R, env, DS, rt, h, so⟩ => ?_
  refine lc_imp hts σ H _ ⟨R, env, _, _, rt.rs, h, fun d k v R1 H1 x1 ok1 r1 ⟨nb, q⟩ => so.nx R1 _ _ H1 (rt.setK x1 ok1 r1 nb i) (x1.sta rt.rs.ok) q, so.xok rt⟩
end
end Kn
namespace Kn
open PySem PySem.Spec L2
section
variable {X : Cx} {κ : BoxKit} {W : WX} {R0 : Rg}

/-! ### arithmetic, joining -/
def fAdd : D → D → QD → Prop
  | .int i, .int j, Q => Q (.int (i + j)) .frz
  | .lst a, .lst b, Q => a.length + b.length ≤ sizeLine ∧ Q (.lst (a ++ b)) .own
  | .tup a, .tup b, Q => a.length + b.length ≤ sizeLine ∧ Q (.tup (a ++ b)) .frz
  | .str a, .str b, Q => a.length + b.length ≤ sizeLine ∧ Q (.str (a ++ b)) .frz
  | _, _, _ => False
abbrev rAdd (K : PySem.W.Frag) : R2 := fun x y H Q => (rI0 fun i j => .int (i + j)) x y H Q ∨ (rCat x y H Q ∨ (rCatA K x y H Q ∨ (∃ i j, x = .str i ∧ y = .str j ∧ i.length + j.length ≤ sizeLine ∧ Q (.str (i ++ j)) H)))
theorem oAdd : OpR X (binaryOp .Add) (rAdd X.K) := OpR.or op_add (OpR.or op_cat (OpR.or op_catA op_add_str))
theorem bAdd : BinOk X κ (rAdd X.K) fAdd := by
  intro R env σ H x y d e Qd Q rs vx vy h hq
  have none : ∀ {P : Prop}, fAdd d e Qd → (∀ i j, d = .int i → e = .int j → P) → (∀ a b, d = .lst a → e = .lst b → P) → (∀ a b, d = .tup a → e = .tup b → P) → (∀ a b, d = .str a → e = .str b → P) → P := by
    intro P h h1 h2 h3 h4
    unfold fAdd at h
    split at h
    · exact h1 _ _ rfl rfl
    · exact h2 _ _ rfl rfl
    · exact h3 _ _ rfl rfl
    · exact h4 _ _ rfl rfl
    · exact h.elim
  refine none h (fun i j e1 e2 => ?_) (fun a b e1 e2 => ?_) (fun a b e1 e2 => ?_) (fun a b e1 e2 => ?_) <;> subst e1 e2
  · exact .inl ⟨i, j, vx.int, vy.int, hq.now rs.ok rep_int h⟩
  · obtain ⟨p, vs, rfl, hp, r1⟩ := vx.lst'
    obtain ⟨q, us, rfl, hq', r2⟩ := vy.lst'
    exact .inr (.inl ⟨p, q, vs, us, rfl, rfl, hp, hq', by rw [r1.len, r2.len]; exact h.1, hq.lst (.refl R H) rs.ok (r1.append r2) h.2⟩)
  · obtain ⟨p, vs, rfl, hp, r1⟩ := vx.tup
    obtain ⟨q, us, rfl, hp2, r2⟩ := vy.tup
    refine .inr (.inr (.inl ⟨p, q, vs, us, rfl, rfl, hp.sq, hp2.sq, by rw [r1.len, r2.len]; exact h.1, fun e1 => ?_, fun _ e2 => ?_, fun _ _ => hq.tup (.refl R H) rs.ok (r1.append r2) h.2⟩))
    · refine hq.now rs.ok ?_ h.2
      unfold Rep
      exact ⟨q, us, rfl, hp2, by have z := r1.append r2; rw [e1, List.nil_append] at z; exact z⟩
    · refine hq.now rs.ok ?_ h.2
      unfold Rep
      exact ⟨p, vs, rfl, hp, by have z := r1.append r2; rw [e2, List.append_nil] at z; exact z⟩
  · exact .inr (.inr (.inr ⟨a, b, vx.str, vy.str, h.1, hq.now rs.ok rep_str h.2⟩))
def fSub : D → D → QD → Prop
  | .int i, .int j, Q => Q (.int (i - j)) .frz
  | _, _, _ => False
/-- two ints -/
def fII (C : Int → Int → Prop) (g : Int → Int → D) : D → D → QD → Prop
  | .int i, .int j, Q => C i j ∧ Q (g i j) .frz
  | _, _, _ => False
theorem fII_cases {C : Int → Int → Prop} {g : Int → Int → D} {d e : D} {Q : QD} (h : fII C g d e Q) : ∃ i j, d = .int i ∧ e = .int j ∧ C i j ∧ Q (g i j) .frz := by
  unfold fII at h
  split at h
  · exact ⟨_, _, rfl, rfl, h.1, h.2⟩
  · exact h.elim
theorem bII {C : Int → Int → Prop} {g : Int → Int → V} {g' : Int → Int → D} (hr : ∀ (R : Rg) (H : Hp) i j, Rep X.K R H (g i j) (g' i j)) : BinOk X κ (rI C g) (fII C g') := by
  intro R env σ H x y d e Qd Q rs vx vy h hq
  obtain ⟨i, j, rfl, rfl, c, q⟩ := fII_cases h
  exact ⟨i, j, vx.int, vy.int, c, hq.now rs.ok (hr R H i j) q⟩
theorem bII0 {g : Int → Int → V} {g' : Int → Int → D} (hr : ∀ (R : Rg) (H : Hp) i j, Rep X.K R H (g i j) (g' i j)) : BinOk X κ (rI0 g) (fII (fun _ _ => True) g') := by
  intro R env σ H x y d e Qd Q rs vx vy h hq
  obtain ⟨i, j, rfl, rfl, c, q⟩ := fII_cases h
  exact ⟨i, j, vx.int, vy.int, hq.now rs.ok (hr R H i j) q⟩
abbrev gSub : D → D → QD → Prop := fII (fun _ _ => True) fun i j => .int (i - j)
theorem bSub : BinOk X κ (rI0 fun i j => .int (i - j)) gSub := bII0 fun _ _ _ _ => rep_int
/-- products -/
def fMul : D → D → QD → Prop
  | .int i, .int j, Q => IntMulOk i j ∧ Q (.int (i * j)) .frz
  | .lst a, .int k, Q => -(2 ^ 63) ≤ k ∧ k < 2 ^ 63 ∧ a.length * k.toNat ≤ sizeLine ∧ Q (.lst (List.replicate k.toNat a).flatten) .own
  | .tup a, .int k, Q => a ≠ [] ∧ 2 ≤ k ∧ k ≤ 1000 ∧ a.length ≤ 1000 ∧ Q (.tup (List.replicate k.toNat a).flatten) .frz
  | _, _, _ => False
theorem RepL.rep {K : PySem.W.Frag} {R : Rg} {H : Hp} {vs : List V} {ds : List D} (h : RepL K R H vs ds) : ∀ n, RepL K R H (List.replicate n vs).flatten (List.replicate n ds).flatten
  | 0 => RepL.nil
  | n + 1 => by
    rw [List.replicate_succ, List.replicate_succ, List.flatten_cons, List.flatten_cons]
    exact h.append (RepL.rep h n)
abbrev rMul (K : PySem.W.Frag) : R2 := fun x y H Q => (rI IntMulOk fun i j => .int (i * j)) x y H Q ∨ (rRep x y H Q ∨ rRepT K x y H Q)
theorem oMul : OpR X (binaryOp .Mult) (rMul X.K) := OpR.or (opI fun _ _ _ _ _ _ _ hc q => PyProof.Rows.mul_int q hc) (OpR.or op_rep op_repT)
theorem bMul : BinOk X κ (rMul X.K) fMul := by
  intro R env σ H x y d e Qd Q rs vx vy h hq
  unfold fMul at h
  split at h
  · exact .inl ⟨_, _, vx.int, vy.int, h.1, hq.now rs.ok rep_int h.2⟩
  · obtain ⟨p, vs, rfl, hp, r1⟩ := vx.lst'
    exact .inr (.inl ⟨p, _, vs, rfl, vy.int, hp, h.1, h.2.1, by rw [r1.len]; exact h.2.2.1, hq.lst (.refl R H) rs.ok (r1.rep _) h.2.2.2⟩)
  · obtain ⟨p, vs, rfl, hp, r1⟩ := vx.tup
    obtain ⟨h1, h2, h3, h4, h5⟩ := h
    refine .inr (.inr ⟨p, _, vs, rfl, vy.int, hp.sq, fun z => h1 ?_, h2, h3, by rw [r1.len]; exact h4, hq.tup (.refl R H) rs.ok (r1.rep _) h5⟩)
    have z2 := r1.len
    rw [z] at z2
    exact List.length_eq_zero_iff.mp z2.symm
  · exact h.elim
/-- a divisor of at most some thousand figures, above nought -/
abbrev gDiv : D → D → QD → Prop := fII CDivW fun i j => .int (i / j)
theorem bDiv : BinOk X κ (rI CDivW fun i j => .int (i / j)) gDiv := bII fun _ _ _ _ => rep_int
abbrev gMod : D → D → QD → Prop := fII (fun _ j => 0 < j) fun i j => .int (i % j)
theorem bMod : BinOk X κ (rI (fun _ j => 0 < j) fun i j => .int (i % j)) gMod := bII fun _ _ _ _ => rep_int
abbrev gPow : D → D → QD → Prop := fII CPow fun i j => .int (i ^ j.toNat)
theorem bPow : BinOk X κ (rI CPow fun i j => .int (i ^ j.toNat)) gPow := bII fun _ _ _ _ => rep_int
def fNeg : D → QD → Prop
  | .int i, Q => Q (.int (-i)) .frz
  | _, _ => False
theorem uNeg : UnOk X κ (rU fun i => .int (-i)) fNeg := by
  intro R env σ H x d Qd Q rs vx h hq
  unfold fNeg at h
  split at h
  · exact ⟨_, vx.int, hq.now rs.ok rep_int h⟩
  · exact h.elim

/-! ### comparisons -/
abbrev gLt : D → D → QD → Prop := fII (fun _ _ => True) fun i j => .bl (decide (i < j))
abbrev gLe : D → D → QD → Prop := fII (fun _ _ => True) fun i j => .bl (decide (i ≤ j))
abbrev gGt : D → D → QD → Prop := fII (fun _ _ => True) fun i j => .bl (decide (j < i))
abbrev gGe : D → D → QD → Prop := fII (fun _ _ => True) fun i j => .bl (decide (j ≤ i))
theorem bLt : BinOk X κ (rI0 fun i j => .bl (decide (i < j))) gLt := bII0 fun _ _ _ _ => rep_bl
theorem bLe : BinOk X κ (rI0 fun i j => .bl (decide (i ≤ j))) gLe := bII0 fun _ _ _ _ => rep_bl
theorem bGt : BinOk X κ (rI0 fun i j => .bl (decide (j < i))) gGt := bII0 fun _ _ _ _ => rep_bl
theorem bGe : BinOk X κ (rI0 fun i j => .bl (decide (j ≤ i))) gGe := bII0 fun _ _ _ _ => rep_bl
def fIsN : D → QD → Prop
  | .non, Q => Q (.bl true) .frz
  | .bl _, Q => Q (.bl false) .frz
  | .int _, Q => Q (.bl false) .frz
  | .str _, Q => Q (.bl false) .frz
  | .tup _, Q => Q (.bl false) .frz
  | .lst _, Q => Q (.bl false) .frz
  | .obj _ _, Q => Q (.bl false) .frz
  | _, _ => False
def isNon : D → Bool
  | .non => true
  | _ => false
/-- x is None, x is not None -/
@[simp] def gIs (neg : Bool) : D → D → QD → Prop := fun x y Q => y = .non ∧ fIsN x (fun d _ => Q (.bl (neg ^^ (isNon x))) .frz)
theorem fIsN_at {x : D} {P : Prop} (h : fIsN x (fun _ _ => P)) : P := by
  unfold fIsN at h
  split at h <;> first | exact h | exact h.elim
theorem isNon_ok {R : Rg} {H : Hp} {v : V} {d : D} (h : Vw X.K R H v d) (q : fIsN d (fun _ _ => True)) : decide (v = .non) = isNon d := by
  cases d with
  | non => rw [h.non]; rfl
  | bl b => rw [h.bl]; rfl
  | int i => rw [h.int]; rfl
  | str s => rw [h.str]; rfl
  | tup ds => obtain ⟨a, vs, e, _⟩ := h.tup; rw [e]; rfl
  | lst ds => obtain ⟨a, vs, e, _⟩ := h.lst'; rw [e]; rfl
  | obj c fs => cases h with | rep h => unfold Rep at h; exact h.elim
  | exc c fs => exact q.elim
  | box => exact q.elim
  | scr ns => exact q.elim
  | ty n => exact q.elim
theorem fIsN_tr {x : D} {P : Prop} (h : fIsN x (fun _ _ => P)) : fIsN x (fun _ _ => True) := by
  unfold fIsN at h ⊢
  split at h <;> first | trivial | exact h.elim
theorem bIs : BinOk X κ (fun x y H Q => y = .non ∧ Q (.bl (decide (x = .non))) H) (gIs false) := by
  intro R env σ H x y d e Qd Q rs vx vy ⟨h1, h2⟩ hq
  subst h1
  refine ⟨vy.non, ?_⟩
  rw [isNon_ok vx (fIsN_tr h2)]
  exact hq.now rs.ok rep_bl (by simpa using fIsN_at h2)
theorem bIsNot : BinOk X κ (fun x y H Q => y = .non ∧ Q (.bl (!decide (x = .non))) H) (gIs true) := by
  intro R env σ H x y d e Qd Q rs vx vy ⟨h1, h2⟩ hq
  subst h1
  refine ⟨vy.non, ?_⟩
  rw [isNon_ok vx (fIsN_tr h2)]
  exact hq.now rs.ok rep_bl (by simpa using fIsN_at h2)
mutual
/-- a plain value as the library's data -/
def pd : D → PyData
  | .non => .none
  | .bl b => .bool b
  | .int i => .int i
  | .str s => .str s
  | .tup xs => .tuple (pdL xs)
  | .lst xs => .list (pdL xs)
  | _ => .none
def pdL : List D → List PyData
  | [] => []
  | d :: ds => pd d :: pdL ds
/-- made of None, truth values, ints, texts, tuples and lists -/
def plain : D → Bool
  | .non => true
  | .bl _ => true
  | .int _ => true
  | .str _ => true
  | .tup xs => plainL xs
  | .lst xs => plainL xs
  | _ => false
def plainL : List D → Bool
  | [] => true
  | d :: ds => plain d && plainL ds
end
mutual
theorem Rep.dp {R : Rg} {H : Hp} : ∀ {d : D} {v : V}, Rep X.K R H v d → plain d = true → Dp X.K H v (pd d)
  | .non, v, h, _ => by unfold Rep at h; subst h; unfold pd; exact .non
  | .bl b, v, h, _ => by unfold Rep at h; subst h; unfold pd; exact .bl b
  | .int i, v, h, _ => by unfold Rep at h; subst h; unfold pd; exact .int i
  | .str s, v, h, _ => by unfold Rep at h; subst h; unfold pd; exact .str s
  | .tup ds, v, h, p => by
    unfold Rep at h
    unfold plain at p
    obtain ⟨a, vs, rfl, t, r⟩ := h
    unfold pd
    exact .tup t.sq (RepL.dp r p)
  | .lst ds, v, h, p => by
    unfold Rep at h
    unfold plain at p
    obtain ⟨a, vs, rfl, t, r⟩ := h
    unfold pd
    exact .lst t.sq (RepL.dp r p)
  | .obj _ _, v, h, p => by unfold plain at p; cases p
  | .exc _ _, v, h, p => by unfold plain at p; cases p
  | .box, v, h, p => by unfold plain at p; cases p
  | .scr _, v, h, p => by unfold plain at p; cases p
  | .ty _, v, h, p => by unfold plain at p; cases p
theorem RepL.dp {R : Rg} {H : Hp} : ∀ {ds : List D} {vs : List V}, RepL X.K R H vs ds → plainL ds = true → DpAll X.K H vs (pdL ds)
  | [], vs, h, _ => by
    rw [RepL.nil_iff.mp h]
    unfold pdL
    exact .nil
  | d :: ds, vs, h, p => by
    obtain ⟨v, r, rfl, h1, h2⟩ := h.cases
    unfold plainL at p
    rw [Bool.and_eq_true] at p
    unfold pdL
    exact .cons (Rep.dp h1 p.1) (RepL.dp h2 p.2)
end
theorem Vw.dp {R : Rg} {H : Hp} {d : D} {v : V} (h : Vw X.K R H v d) (p : plain d = true) : Dp X.K H v (pd d) := by
  cases h with
  | rep h => exact h.dp p
  | lst e r =>
    unfold plain at p
    unfold pd
    exact .lst (SqL.of e) (r.dp p)
/-- x == y, x != y of plain values -/
def fEqD (neg : Bool) : D → D → QD → Prop := fun x y Q => plain x = true ∧ plain y = true ∧ SeqAt.shaped (pd x) = true ∧ SeqAt.shaped (pd y) = true ∧ Q (.bl (neg ^^ PyData.eqv (pd x) (pd y))) .frz
theorem bEq : BinOk X κ (rEqD X.K) (fEqD false) := by
  intro R env σ H x y d e Qd Q rs vx vy ⟨h1, h2, h3, h4, h5⟩ hq
  exact ⟨_, _, vx.dp h1, vy.dp h2, h3, h4, hq.now rs.ok rep_bl (by simpa using h5)⟩
theorem bNe : BinOk X κ (rNeD X.K) (fEqD true) := by
  intro R env σ H x y d e Qd Q rs vx vy ⟨h1, h2, h3, h4, h5⟩ hq
  exact ⟨_, _, vx.dp h1, vy.dp h2, h3, h4, hq.now rs.ok rep_bl (by simpa using h5)⟩

theorem Vw.scr {K : PySem.W.Frag} {R : Rg} {H : Hp} {v : V} {ns : List Int} (h : Vw K R H v (.scr ns)) : ∃ a, v = .ref a ∧ SAt K R H a ns := by
  cases h with
  | rep h => unfold Rep at h; exact h
theorem repOfInts {K : PySem.W.Frag} {R : Rg} {H : Hp} : ∀ {xs : List Int}, RepL K R H (xs.map V.int) (xs.map D.int)
  | [] => RepL.nil
  | x :: xs => .cons rep_int repOfInts
/-! ### subscripts -/
def fIx : D → D → QD → Prop
  | .lst a, .int i, Q => ∃ d, atI a i = some d ∧ Q d .frz
  | .tup a, .int i, Q => ∃ d, atI a i = some d ∧ Q d .frz
  | .str z, .int i, Q => z.length ≤ sizeLine ∧ ∃ c, atI z.cps.toList i = some c ∧ Q (.str ⟨#[c]⟩) .frz
  | .scr ns, .int i, Q => ∃ d, atI ns i = some d ∧ Q (.int d) .frz
  | _, _, _ => False
theorem RepL.atI {K : PySem.W.Frag} {R : Rg} {H : Hp} {vs : List V} {ds : List D} {i : Int} {d : D} (h : RepL K R H vs ds) (e : L2.atI ds i = some d) : ∃ v, L2.atI vs i = some v ∧ Rep K R H v d := by
  unfold L2.atI at e ⊢
  rw [h.len]
  cases q : ixN ds.length i with
  | none => rw [q] at e; cases e
  | some j =>
    rw [q] at e
    exact h.get e
theorem atI_map {α β : Type} {g : α → β} {xs : List α} {i : Int} {d : α} (h : atI xs i = some d) : atI (xs.map g) i = some (g d) := by
  unfold L2.atI at h ⊢
  rw [List.length_map]
  cases q : ixN xs.length i with
  | none => rw [q] at h; cases h
  | some j =>
    rw [q] at h
    have h' : xs[j]? = some d := h
    show (xs.map g)[j]? = some (g d)
    rw [List.getElem?_map, h'] <;> rfl
theorem bIx : BinOk X κ (rIx X.K) fIx := by
  intro R env σ H x y d e Qd Q rs vx vy h hq
  unfold fIx at h
  split at h
  · obtain ⟨d, h1, h2⟩ := h
    obtain ⟨p, vs, rfl, hp, r1⟩ := vx.lst'
    obtain ⟨v, e1, e2⟩ := r1.atI h1
    exact .inl ⟨p, vs, _, v, rfl, vy.int, SqL.of hp, e1, hq.now rs.ok e2 h2⟩
  · obtain ⟨d, h1, h2⟩ := h
    obtain ⟨p, vs, rfl, hp, r1⟩ := vx.tup
    obtain ⟨v, e1, e2⟩ := r1.atI h1
    exact .inr (.inl ⟨p, vs, _, v, rfl, vy.int, hp.sq, e1, hq.now rs.ok e2 h2⟩)
  · obtain ⟨h0, c, h1, h2⟩ := h
    exact .inr (.inr ⟨_, _, c, vx.str, vy.int, h0, h1, hq.now rs.ok rep_str h2⟩)
  · obtain ⟨d, h1, h2⟩ := h
    obtain ⟨p, rfl, hp⟩ := vx.scr
    exact .inl ⟨p, _, _, .int d, rfl, vy.int, hp.sq, atI_map h1, hq.now rs.ok rep_int h2⟩
  · exact h.elim
/-- a part of a list, a tuple -/
def cutD (xs : List D) (lo hi : Option Int) : List D := (xs.drop (HT.sIx xs.length 0 lo)).take (HT.sIx xs.length xs.length hi - HT.sIx xs.length 0 lo)
theorem RepL.cut {K : PySem.W.Frag} {R : Rg} {H : Hp} {vs : List V} {ds : List D} (h : RepL K R H vs ds) (lo hi : Option Int) : RepL K R H (cutV vs lo hi) (cutD ds lo hi) := by
  unfold cutV cutD
  rw [h.len]
  exact (h.drop _).take _
abbrev WO := Sls → (Option Int → Prop) → XD → Prop
def tO (X : Cx) (κ : BoxKit) (W : WX) (w : WO) : TO := fun σ H Q => ∃ (R : Rg) (env : Sls) (Qd : Option Int → Prop) (Ed : XD), RS X.K κ R env σ H ∧ w env Qd Ed ∧ (∀ (o : Option Int) (R' : Rg) (H' : Hp), Ext R H R' H' → Rok κ R' H' → Qd o → Q o H') ∧ XOk X κ W σ R H Ed
abbrev SO (X : Cx) (κ : BoxKit) (W : WX) (e : Option Expr) (w : WO) : Prop := PO X e (tO X κ W w)
@[simp] def oNone : WO := fun _ Q _ => Q none
@[simp] def oSome (a : WE) : WO := fun env Q E => a env (fun d _ => ∃ i, d = .int i ∧ Q (some i)) E
theorem po_of {e : Option Expr} {t t' : TO} (h : PO X e t) (i : ∀ σ H Q, t' σ H Q → t σ H Q) : PO X e t' := ⟨fun pins s σ H Q I hw => h.run pins s σ H Q I (i σ H Q hw)⟩
theorem so_none : SO X κ W none oNone := po_of po_none fun σ H Q ⟨R, env, Qd, Ed, rs, h, hq, hx⟩ => hq none R H (.refl R H) rs.ok h
theorem so_some {a : Expr} {wa : WE} (ha : SE X κ W a wa) : SO X κ W (some a) (oSome wa) := po_of (po_some ha) fun σ H Q ⟨R, env, Qd, Ed, rs, h, hq, hx⟩ =>
  ⟨R, env, _, _, rs, h, fun d k v R1 H1 x1 ok1 r1 ⟨i, hd, q⟩ => ⟨i, (by subst hd; exact r1.vw.int), hq (some i) R1 H1 x1 ok1 q⟩, hx⟩
def fSl : D → Option Int → Option Int → QD → Prop
  | .lst a, lo, hi, Q => Q (.lst (cutD a lo hi)) .own
  | .tup a, lo, hi, Q => Q (.tup (cutD a lo hi)) .frz
  | .str z, lo, hi, Q => z.length ≤ sizeLine ∧ Q (.str (cutS z lo hi)) .frz
  | .scr ns, lo, hi, Q => Q (.lst (cutD (ns.map D.int) lo hi)) .own
  | _, _, _, _ => False
@[simp] def wSl (a : WE) (l h : WO) : WE := fun env Q E => a env (fun d _ => l env (fun lo => h env (fun hi => fSl d lo hi Q) E) E) E
theorem slR_or {r r' : V → Option Int → Option Int → Hp → VK → Prop} (h : SlR X r) (h' : SlR X r') : SlR X (fun x l u H Q => r x l u H Q ∨ r' x l u H Q) := by
  intro pins s σ H x v vl vu lo hi sl Q I rx hs pl pu q
  rcases q with q | q
  · exact h pins s σ H x v vl vu lo hi sl Q I rx hs pl pu q
  · exact h' pins s σ H x v vl vu lo hi sl Q I rx hs pl pu q
theorem se_slice {a : Expr} {lo hi : Option Expr} {wa : WE} {wl wh : WO} {pos p2 : Pos} (ha : SE X κ W a wa) (hl : SO X κ W lo wl) (hh : SO X κ W hi wh) : SE X κ W (.Subscript a (.Slice lo hi none p2) pos) (wSl wa wl wh) := by
  refine pe_of (pe_slice (slR_or sl_list (slR_or sl_tupA sl_str)) ha hl hh) fun σ H Q ⟨R, env, Qd, Ed, rs, h, hq, hx⟩ => ?_
  refine ⟨R, env, _, _, rs, h, fun d k v R1 H1 x1 ok1 r1 q1 => ?_, hx⟩
  refine ⟨R1, env, _, _, rs.ext x1 ok1, q1, fun lo R2 H2 x2 ok2 q2 => ?_, hx.ext x1⟩
  refine ⟨R2, env, _, _, (rs.ext x1 ok1).ext x2 ok2, q2, fun hi R3 H3 x3 ok3 q3 => ?_, (hx.ext x1).ext x2⟩
  have hq3 := ((hq.ext x1).ext x2).ext x3
  have v3 := ((r1.ext ok1 x2).ext ok2 x3).vw
  unfold fSl at q3
  split at q3
  · obtain ⟨p, vs, rfl, hp, rr⟩ := v3.lst'
    exact .inl ⟨p, vs, rfl, SqL.of hp, hq3.lst (.refl R3 H3) ok3 (rr.cut _ _) q3⟩
  · obtain ⟨p, vs, rfl, hp, rr⟩ := v3.tup
    refine .inr (.inl ⟨p, vs, rfl, hp.sq, fun hw => ?_, fun _ => hq3.tup (.refl R3 H3) ok3 (rr.cut _ _) q3⟩)
    refine hq3.now ok3 ?_ q3
    unfold Rep
    have e1 : cutV vs lo hi = vs := by
      unfold cutV
      rw [hw.1, hw.2]
      simp
    exact ⟨p, vs, rfl, hp, by have z := rr.cut lo hi; rw [e1] at z; exact z⟩
  · exact .inr (.inr ⟨_, v3.str, q3.1, hq3.now ok3 rep_str q3.2⟩)
  · obtain ⟨a, rfl, hs⟩ := v3.scr
    exact .inl ⟨a, _, rfl, hs.sq, hq3.lst (.refl R3 H3) ok3 (RepL.cut repOfInts _ _) q3⟩
  · exact q3.elim

/-! ### built-ins -/
def fLen : List D → QD → Prop
  | [.lst a], Q => Q (.int a.length) .frz
  | [.tup a], Q => Q (.int a.length) .frz
  | [.str z], Q => z.length ≤ sizeLine ∧ Q (.int z.length) .frz
  | [.scr ns], Q => Q (.int ns.length) .frz
  | _, _ => False
abbrev rLen (K : PySem.W.Frag) : List V → Hp → VK → Prop := fun xs H Q => ∃ x n, xs = [x] ∧ LenV K x H n ∧ Q (.int n) H
theorem bltLen : BltOk X κ (rLen X.K) fLen := by
  intro R env σ H vs ds Qd Q rs vw h hq
  unfold fLen at h
  split at h
  · obtain ⟨v, rfl, hv⟩ := vw.one
    obtain ⟨p, us, rfl, hp, r⟩ := hv.lst'
    exact ⟨_, us.length, rfl, .inl ⟨us, SqL.of hp, rfl⟩, hq.now rs.ok rep_int (by rw [r.len]; exact h)⟩
  · obtain ⟨v, rfl, hv⟩ := vw.one
    obtain ⟨p, us, rfl, hp, r⟩ := hv.tup
    exact ⟨_, us.length, rfl, .inr ⟨us, hp.sq, rfl⟩, hq.now rs.ok rep_int (by rw [r.len]; exact h)⟩
  · obtain ⟨v, rfl, hv⟩ := vw.one
    obtain rfl := hv.str
    exact ⟨_, _, rfl, ⟨h.1, rfl⟩, hq.now rs.ok rep_int h.2⟩
  · obtain ⟨v, rfl, hv⟩ := vw.one
    obtain ⟨p, rfl, hp⟩ := hv.scr
    exact ⟨_, _, rfl, .inl ⟨_, hp.sq, rfl⟩, hq.now rs.ok rep_int (by rw [List.length_map]; exact h)⟩
  · exact h.elim
def fAbs : List D → QD → Prop
  | [.int i], Q => Q (.int (if i < 0 then -i else i)) .frz
  | _, _ => False
theorem bltAbs : BltOk X κ (fun xs H Q => ∃ i, xs = [.int i] ∧ Q (.int (if i < 0 then -i else i)) H) fAbs := by
  intro R env σ H vs ds Qd Q rs vw h hq
  unfold fAbs at h
  split at h
  · obtain ⟨v, rfl, hv⟩ := vw.one
    exact ⟨_, by rw [hv.int], hq.now rs.ok rep_int h⟩
  · exact h.elim
def fInt : List D → QD → Prop
  | [.int i], Q => Q (.int i) .frz
  | [.bl b], Q => Q (.int (if b then 1 else 0)) .frz
  | _, _ => False
theorem bltInt : BltOk X κ (fun xs H Q => (∃ i, xs = [.int i] ∧ Q (.int i) H) ∨ ∃ k, xs = [.bl k] ∧ Q (.int (if k then 1 else 0)) H) fInt := by
  intro R env σ H vs ds Qd Q rs vw h hq
  unfold fInt at h
  split at h
  · obtain ⟨v, rfl, hv⟩ := vw.one
    exact .inl ⟨_, by rw [hv.int], hq.now rs.ok rep_int h⟩
  · obtain ⟨v, rfl, hv⟩ := vw.one
    exact .inr ⟨_, by rw [hv.bl], hq.now rs.ok rep_int h⟩
  · exact h.elim
def fTuple : List D → QD → Prop
  | [.lst a], Q => Q (.tup a) .frz
  | [.tup a], Q => Q (.tup a) .frz
  | _, _ => False
theorem bltTuple : BltOk X κ (fun xs H Q => ∃ p ys, xs = [.ref p] ∧ ((SqL X.K H p ys ∧ ∀ l, H l = none → Q (.ref l) (upd H l (.tup ys))) ∨ (SqT X.K H p ys ∧ Q (.ref p) H))) fTuple := by
  intro R env σ H vs ds Qd Q rs vw h hq
  unfold fTuple at h
  split at h
  · obtain ⟨v, rfl, hv⟩ := vw.one
    obtain ⟨p, us, rfl, hp, r⟩ := hv.lst'
    exact ⟨p, us, rfl, .inl ⟨SqL.of hp, hq.tup (.refl R H) rs.ok r h⟩⟩
  · obtain ⟨v, rfl, hv⟩ := vw.one
    obtain ⟨p, us, rfl, hp, r⟩ := hv.tup
    refine ⟨p, us, rfl, .inr ⟨hp.sq, hq.now rs.ok ?_ h⟩⟩
    unfold Rep
    exact ⟨p, us, rfl, hp, r⟩
  · exact h.elim
def fList : List D → QD → Prop
  | [.lst a], Q => Q (.lst a) .own
  | [.tup a], Q => Q (.lst a) .own
  | _, _ => False
theorem bltList : BltOk X κ (fun xs H Q => ∃ p ys, xs = [.ref p] ∧ (SqL X.K H p ys ∨ SqT X.K H p ys) ∧ ∀ l, H l = none → Q (.ref l) (upd H l (.lst ys))) fList := by
  intro R env σ H vs ds Qd Q rs vw h hq
  unfold fList at h
  split at h
  · obtain ⟨v, rfl, hv⟩ := vw.one
    obtain ⟨p, us, rfl, hp, r⟩ := hv.lst'
    exact ⟨p, us, rfl, .inl (SqL.of hp), hq.lst (.refl R H) rs.ok r h⟩
  · obtain ⟨v, rfl, hv⟩ := vw.one
    obtain ⟨p, us, rfl, hp, r⟩ := hv.tup
    exact ⟨p, us, rfl, .inr hp.sq, hq.lst (.refl R H) rs.ok r h⟩
  · exact h.elim
/-- the built-in type of a value -/
def tyOf : D → Option String
  | .non => some "NoneType"
  | .bl _ => some "bool"
  | .int _ => some "int"
  | .str _ => some "str"
  | .tup _ => some "tuple"
  | .lst _ => some "list"
  | _ => none
theorem tyOf_ok {R : Rg} {H : Hp} {v : V} {d : D} {t : String} (h : Vw X.K R H v d) (e : tyOf d = some t) : TyX X.K H v (.type t) := by
  cases d with
  | non => cases e; rw [h.non]; exact .base .non
  | bl b => cases e; rw [h.bl]; exact .base (.bl b)
  | int i => cases e; rw [h.int]; exact .base (.int i)
  | str s => cases e; rw [h.str]; exact .base (.str s)
  | tup ds =>
    cases e
    obtain ⟨a, vs, rfl, t, _⟩ := h.tup
    rcases t with ⟨t, _⟩ | ⟨o, its, n, e1, e2, _⟩
    · exact .base (.tup t)
    · exact .kTuple e1 e2
  | lst ds =>
    cases e
    obtain ⟨a, vs, rfl, t, _⟩ := h.lst'
    exact .base (.lst t)
  | obj c fs => cases e
  | exc c fs => cases e
  | box => cases e
  | scr ns => cases e
  | ty n => cases e
def kitAnyB (a : String) : List String → Option Bool
  | [] => some false
  | b :: bs => match kitB a b with
    | some true => some true
    | some false => kitAnyB a bs
    | none => none
theorem kitAnyB_ok {K : PySem.W.Frag} {a : String} {r : Bool} : ∀ {bs : List String}, kitAnyB a bs = some r → PySem.W.kitAny K (.type a) (bs.map Value.type) = some r
  | [], h => by cases h; exact kitAny_nil
  | b :: bs, h => by
    unfold kitAnyB at h
    cases e : kitB a b with
    | none => rw [e] at h; cases h
    | some k =>
      rw [e] at h
      cases k with
      | true => cases h; exact kitAny_cons (kit_ty e) (fun z => nomatch z) fun _ => rfl
      | false => exact kitAny_cons (kit_ty e) (fun _ => kitAnyB_ok h) fun z => nomatch z
/-- isinstance(x, T), isinstance(x, (T, ..)) of built-in types -/
@[simp] def fIsi (Ts : List String) : D → QD → Prop := fun d Q => ∃ t b, tyOf d = some t ∧ kitAnyB t Ts = some b ∧ Q (.bl b) .frz
@[simp] def wIsi (Ts : List String) (a : WE) : WE := fun env Q E => a env (fun d _ => fIsi Ts d Q) E
theorem tys_rep : ∀ (Ts : List String), Paired ClsV (Ts.map V.ty) (Ts.map Value.type)
  | [] => .nil
  | t :: Ts => .cons (.ty t) (tys_rep Ts)
end
end Kn
namespace Kn
open PySem PySem.Spec L2
section
variable {X : Cx} {κ : BoxKit} {W : WX} {R0 : Bg}

/-! ### isinstance with built-in types -/
abbrev STy (X : Cx) (ts : List Expr) (Ts : List String) : Prop := PA X ts (fun _ H Q => Q (Ts.map V.ty) H)
theorem sty_nil : STy X [] [] := pa_of pa_nil fun _ _ _ h => h
theorem sty_cons {x T : String} {p : Pos} {ts : List Expr} {Ts : List String} (hg : Gl X x) (hm : X.mg x = none) (hv : bootBuiltins x = some (.type T)) (h : STy X ts Ts) (hn : (x : Str) ≠ "__name__" := by decide) (hd : ((x : Str) == ("__debug__" : Str)) = false := by decide)
    (hs : starEach (.Name x p :: ts) X.env = (false, eval (.Name x p) X.env) :: starEach ts X.env := by rfl) : STy X (.Name x p :: ts) (T :: Ts) :=
  pa_of (pa_cons (pe_bltn (v := .ty T) hg hm hv rfl hn hd) h hs) fun σ H Q q => q
variable {a : Expr} {wa : WE} {pos p : Pos}
theorem isi_go {R : Rg} {H : Hp} {v : V} {d : D} {Ts : List String} {Q : QD} (h : Vw X.K R H v d) (q : fIsi Ts d Q) : ∃ t b, TyX X.K H v (.type t) ∧ kitAnyB t Ts = some b ∧ Q (.bl b) .frz := by
  obtain ⟨t, b, e1, e2, e3⟩ := q
  exact ⟨t, b, tyOf_ok h e1, e2, e3⟩
theorem se_isi {x T : String} {p1 p2 : Pos} (ha : SE X κ W a wa) (hg : Gl X "isinstance") (hm : X.mg "isinstance" = none) (hgT : Gl X x) (hmT : X.mg x = none) (hv : bootBuiltins x = some (.type T)) (hn : (x : Str) ≠ "__name__" := by decide) (hd : ((x : Str) == ("__debug__" : Str)) = false := by decide)
    (hs : starEach [a, .Name x p2] X.env = (false, eval a X.env) :: starEach [.Name x p2] X.env := by rfl) : SE X κ W (.Call (.Name "isinstance" p1) [a, .Name x p2] [] pos) (wIsi [T] wa) := by
  have hT : PA X [.Name x p2] (fun _ H Q => Q [V.ty T] H) := pa_of (pa_cons (pe_bltn (v := .ty T) hgT hmT hv rfl hn hd) pa_nil (by rfl)) fun σ H Q q => q
  refine pe_of (pe_callB call_isi hg hm (by decide +kernel) (pa_cons ha hT hs) (by decide) (by decide) hs (by rfl)) fun σ H Q ⟨R, env, Qd, Ed, rs, h, hq, hx⟩ => ?_
  refine ⟨R, env, _, _, rs, h, fun d k v R1 H1 x1 ok1 r1 q1 => ?_, hx⟩
  obtain ⟨t, b, ty, kb, q⟩ := isi_go r1.vw q1
  refine ⟨v, .ty T, _, _, b, rfl, .ty T, ty, ?_, (hq.ext x1).now ok1 rep_bl q⟩
  unfold kitAnyB at kb
  cases e : kitB t T with
  | none => rw [e] at kb; cases kb
  | some c =>
    rw [e] at kb
    cases c with
    | true => cases kb; exact kit_ty e
    | false => cases kb; exact kit_ty e
theorem se_isiT {ts : List Expr} {Ts : List String} {k : Nat} {p1 p2 : Pos} (ha : SE X κ W a wa) (hg : Gl X "isinstance") (hm : X.mg "isinstance" = none) (hT : STy X ts Ts) (hl : Ts.length ≤ 10 := by decide)
    (hs : starEach [a, .Tuple ts k p2] X.env = (false, eval a X.env) :: starEach [.Tuple ts k p2] X.env := by rfl) : SE X κ W (.Call (.Name "isinstance" p1) [a, .Tuple ts k p2] [] pos) (wIsi Ts wa) := by
  refine pe_of (pe_callB call_isiT hg hm (by decide +kernel) (pa_cons ha (pa_cons (pe_tup hT) pa_nil (by rfl)) hs) (by decide) (by decide) hs (by rfl)) fun σ H Q ⟨R, env, Qd, Ed, rs, h, hq, hx⟩ => ?_
  refine ⟨R, env, _, _, rs, h, fun d k v R1 H1 x1 ok1 r1 q1 => ?_, hx⟩
  refine ⟨by rw [List.length_map]; exact Nat.le_trans hl (by decide), fun l nl => ?_⟩
  obtain ⟨x2, ok2⟩ := ext_new ok1 (.tup (Ts.map V.ty)) nl
  obtain ⟨t, b, ty, kb, q⟩ := isi_go ((r1.ext ok1 x2).vw) q1
  exact ⟨v, l, _, _, _, b, rfl, upd_same, tys_rep Ts, ty, kitAnyB_ok kb, ((hq.ext x1).ext x2).now ok2 rep_bl q⟩

/-! ### a slot's own is changed -/
theorem RT.mut {R : Rg} {env : Sls} {σ : St} {H : Hp} {i : Nat} {d d' : D} {l : Addr} {o : HO} (r : RT X κ R0 R env σ H) (e : env[i]? = some (.own d)) (e1 : σ[i]? = some (some (.ref l))) (nz : ¬ R.Z l) (nb : ¬ R.B l) (no : OwnAt X.K R (upd H l o) l d') :
    RT X κ R0 R (env.set i (.own d')) σ (upd H l o) ∧ Sta R H R (upd H l o) := by
  have hn := r.nw i d l e e1
  obtain ⟨x2, ok2, y2⟩ := ext_upd (o := o) r.rs.ok r.ext hn nz nb
  refine ⟨⟨⟨ok2, by simpa using r.rs.len, fun j d2 q => ?_, fun j d2 q => ?_, fun j k d2 d3 b h1 h2 h3 h4 => ?_, fun j b dd fs q => ?_⟩, x2, fun j d2 b q q' => ?_⟩, y2⟩
  · rcases set_get q with ⟨_, z⟩ | ⟨n, z⟩
    · cases z
    · obtain ⟨v, f1, f2⟩ := r.rs.sl j d2 z
      exact ⟨v, f1, f2.sta y2⟩
  · rcases set_get q with ⟨z0, z⟩ | ⟨n, z⟩
    · cases z
      exact ⟨l, by rw [z0]; exact e1, nz, nb, no⟩
    · obtain ⟨b, f1, f2, f3, us, es, g1, g2, g3⟩ := r.rs.ow j d2 z
      have ne : b ≠ l := fun z2 => n (r.rs.ne j i d2 d l z e (by rw [← z2]; exact f1) e1)
      exact ⟨b, f1, f2, f3, us, es, g1, by rw [upd_ne ne]; exact g2, g3.sta y2⟩
  · have back : ∀ {j : Nat} {s : Slot}, (env.set i (.own d'))[j]? = some s → (∃ d0, s = .own d0) → ∃ d0, env[j]? = some (.own d0) := fun {j s} h ⟨d0, hs⟩ => by
      rcases set_get h with ⟨z0, z⟩ | ⟨n, z⟩
      · exact ⟨d, by rw [z0]; exact e⟩
      · exact ⟨d0, by rw [← hs]; exact z⟩
    obtain ⟨a1, b1⟩ := back h1 ⟨_, rfl⟩
    obtain ⟨a2, b2⟩ := back h2 ⟨_, rfl⟩
    exact r.rs.ne j k a1 a2 b b1 b2 h3 h4
  · rcases set_get q with ⟨_, z⟩ | ⟨n, z⟩
    · cases z
    · exact ⟨(r.rs.xs j b dd fs z).1, (r.rs.xs j b dd fs z).2.sta y2⟩
  · rcases set_get q with ⟨z0, z⟩ | ⟨n, z⟩
    · rw [z0, e1] at q'
      cases q'
      exact hn
    · exact r.nw j d2 b z q'
/-- one value is kept: the slots stand on -/
theorem RT.keep1 {R R1 : Rg} {env : Sls} {σ : St} {H H1 : Hp} {d : D} {k : Kd} {v : V} (r : RT X κ R0 R env σ H) (x : Ext R H R1 H1) (ok : Rok κ R1 H1) (h : RepK X.K R1 env σ H H1 v d k) (nb : k ≠ .bor) :
    ∃ R2, RT X κ R0 R2 env σ H1 ∧ Sta R H R2 H1 ∧ Rep X.K R2 H1 v d := by
  obtain ⟨R2, x2, ok2, r2, _⟩ := freeze1 ok x h nb
  exact ⟨R2, r.go x2 ok2, x2.sta r.rs.ok, r2⟩
theorem RT.own {R : Rg} {env : Sls} {σ : St} {H : Hp} {i : Nat} {ds : List D} (r : RT X κ R0 R env σ H) (e : env[i]? = some (.own (.lst ds))) : ∃ l vs, σ[i]? = some (some (.ref l)) ∧ ¬ R.Z l ∧ ¬ R.B l ∧ H l = some (.lst vs) ∧ RepL X.K R H vs ds := by
  obtain ⟨l, e1, nz, nb, vs, es, e2, e3, e4⟩ := r.rs.ow i _ e
  cases e2
  exact ⟨l, vs, e1, nz, nb, e3, e4⟩
/-- x.append(e) -/
@[simp] def wApp (i : Nat) (a : WE) : WS := fun De env => ∃ ds, env[i]? = some (.own (.lst ds)) ∧ a env (fun d k => k ≠ .bor ∧ ds.length < sizeLine ∧ De.nx (env.set i (.own (.lst (ds ++ [d]))))) (fun c fs => De.ex c fs env)
theorem ss_app {i : Nat} {e : Expr} (h : PE X e (tBM X.K "list" rAppend (tVar i) (tCons (tE X κ W wa) tNil))) (hw : swapsWith e none pos.line X.env = pure false := by rfl) : SS X κ W R0 (.Expr e pos) (wApp i wa) := by
  refine ps_of (ps_expr h hw) fun De σ H ⟨R, env, DS, rt, ⟨ds, e, h⟩, so⟩ => ?_
  obtain ⟨l, vs, e1, nz, nb, hl, rl⟩ := rt.own e
  refine ⟨_, e1, .inl ⟨rfl, vs, .inl (.inl hl)⟩, R, env, _, _, rt.rs, h, fun d k v R1 H1 x1 ok1 r1 ⟨hk, hz, q⟩ => ?_, so.xok rt⟩
  obtain ⟨R2, rt2, y2, r2⟩ := rt.keep1 x1 ok1 r1 hk
  obtain ⟨l', vs', e1', nz2, nb2, hl2, rl2⟩ := rt2.own e
  rw [e1] at e1'
  cases e1'
  obtain ⟨_, _, y⟩ := ext_upd (o := .lst (vs' ++ [v])) rt2.rs.ok rt2.ext (rt2.nw i _ l e e1) nz2 nb2
  obtain ⟨rt3, y3⟩ := rt2.mut (o := .lst (vs' ++ [v])) (d' := .lst (ds ++ [d])) e e1 nz2 nb2 ⟨_, _, rfl, upd_same, (rl2.sta y).concat (r2.sta y)⟩
  exact ⟨l, vs', v, rfl, rfl, hl2, by rw [rl2.len]; exact hz, so.nx R2 _ σ _ rt3 (y2.trans y3) q⟩
/-- x[i] = e -/
@[simp] def wSetIx (i : Nat) (wi : WE) (a : WE) : WS := fun De env => ∃ ds, env[i]? = some (.own (.lst ds)) ∧ a env (fun d k => k ≠ .bor ∧ wi env (fun n _ => ∃ m j, n = .int m ∧ ixN ds.length m = some j ∧ De.nx (env.set i (.own (.lst (ds.set j d))))) (fun c fs => De.ex c fs env)) (fun c fs => De.ex c fs env)
theorem ss_setIx (i : Nat) {x : Str} {ix : Expr} {wi : WE} {p1 p2 : Pos} (ha : SE X κ W a wa) (hi : SE X κ W ix wi) (hN : X.N[i]? = some x := by rfl) (hv : Vis X.env.scope x := by first | exact Or.inl rfl | exact Or.inr (Or.inl rfl) | exact Or.inr (Or.inr rfl)) (hd : (x == ("__debug__" : Str)) = false := by decide)
    (hcd : (x == ("__classdict__" : Str)) = false := by decide)
    (hsub : ∀ v, assign (.Subscript (.Name x p1) ix p2) X.env v = (do
      let ov ← holding [v] (eval (.Name x p1) X.env)
      let iv ← holding [v, ov] (eval ix X.env)
      standAt p2
      holding [v, ov, iv] (setItem ov iv v)
      release [v, ov, iv] []) := by intro _; rfl)
    (hs : swapsWithSole [.Subscript (.Name x p1) ix p2] a pos.line X.env = pure false := by rfl) (hw : swappedStores [.Subscript (.Name x p1) ix p2] a X.env = pure none := by rfl)
    (h1 : (assignEach [.Subscript (.Name x p1) ix p2] X.env).map (·.2) = [assign (.Subscript (.Name x p1) ix p2) X.env] := by rfl) : SS X κ W R0 (.Assign [.Subscript (.Name x p1) ix p2] a pos) (wSetIx i wi wa) := by
  refine ps_of (ps_asg ha (pg_sub (pe_var hN hv hd hcd) hi set_list hsub) hs hw h1) fun De σ H ⟨R, env, DS, rt, ⟨ds, e, h⟩, so⟩ => ?_
  refine ⟨R, env, _, _, rt.rs, h, fun d k v R1 H1 x1 ok1 r1 ⟨hk, q1⟩ => ?_, so.xok rt⟩
  obtain ⟨l, vs, e1, nz, nb, hl, rl⟩ := rt.own e
  have rt1 := rt.go x1 ok1
  refine ⟨_, e1, R1, env, _, _, rt1.rs, q1, fun n kn u R2 H2 x2 ok2 r2 ⟨m, j, hn, hj, q⟩ => ?_, (so.go (x1.sta rt.rs.ok)).xok rt1⟩
  subst hn
  obtain ⟨R3, rt3, y3, r3⟩ := rt.keep1 (x1.trans x2) ok2 (r1.ext ok1 x2) hk
  obtain ⟨l', vs', e1', nz2, nb2, hl2, rl2⟩ := rt3.own e
  rw [e1] at e1'
  cases e1'
  obtain ⟨_, _, y⟩ := ext_upd (o := .lst (vs'.set j v)) rt3.rs.ok rt3.ext (rt3.nw i _ l e e1) nz2 nb2
  obtain ⟨rt4, y4⟩ := rt3.mut (o := .lst (vs'.set j v)) (d' := .lst (ds.set j d)) e e1 nz2 nb2 ⟨_, _, rfl, upd_same, (rl2.sta y).set j (r3.sta y)⟩
  exact ⟨l, vs', m, j, rfl, r2.vw.int, hl2, by rw [rl2.len]; exact hj, so.nx R3 _ σ _ rt4 (y3.trans y4) q⟩
/-- a, b = e1, e2 -/
def par2 (ds : List (D × Kd)) (P : D → Kd → D → Kd → Prop) : Prop := ∃ d1 k1 d2 k2, ds = [(d1, k1), (d2, k2)] ∧ P d1 k1 d2 k2
@[simp] theorem par2_two {a b : D} {k l : Kd} {P : D → Kd → D → Kd → Prop} : par2 [(a, k), (b, l)] P = P a k b l := by
  unfold par2
  exact propext ⟨fun ⟨_, _, _, _, e, q⟩ => by cases e; exact q, fun q => ⟨_, _, _, _, rfl, q⟩⟩
@[simp] def wPar (i j : Nat) (a : WA) : WS := fun De env => a env (fun ds => par2 ds fun d1 k1 d2 k2 => k1 ≠ .bor ∧ k2 ≠ .bor ∧ De.nx ((env.set i (slot d1 k1)).set j (slot d2 k2))) (fun c fs => De.ex c fs env)
theorem ss_par {i j : Nat} {x y : Str} {a b : Expr} {w : WA} {px py pt : Pos} {kt k2 : Nat} {pt2 : Pos} (hc : X.calm = true) (hN : X.N.Nodup) (ha : SA X κ W [a, b] w) (hi : X.N[i]? = some x := by rfl) (hj : X.N[j]? = some y := by rfl) (hij : i ≠ j := by decide)
    (hx : X.env.scope.names.lookup x = some .local := by rfl) (hy : X.env.scope.names.lookup y = some .local := by rfl)
    (hw : swappedStores [.Tuple [.Name x px, .Name y py] kt pt] (.Tuple [a, b] k2 pt2) X.env = pure (some [x, y]) := by rfl)
    (hs : swapsWithSole [.Tuple [.Name x px, .Name y py] kt pt] (.Tuple [a, b] k2 pt2) pos.line X.env = pure false := by rfl) :
    SS X κ W R0 (.Assign [.Tuple [.Name x px, .Name y py] kt pt] (.Tuple [a, b] k2 pt2) pos) (wPar i j w) := by
  refine ps_of (ps_par hc hN hi hj hij hx hy ha hw hs) fun De σ H ⟨R, env, DS, rt, h, so⟩ => ?_
  refine ⟨R, env, _, _, rt.rs, h, fun ds vs R1 H1 x1 ok1 r1 ⟨d1, k1, d2, k2, e, n1, n2, q⟩ => ?_, so.xok rt⟩
  subst e
  cases r1 with
  | @cons v1 _ _ _ r1 o1 r2 =>
    cases r2 with
    | @cons v2 _ _ _ r2 o2 r3 =>
      cases r3
      refine ⟨v1, v2, rfl, ?_⟩
      have rt1 : RT X κ R0 R1 (env.set i (slot d1 k1)) (σ.set i (some v1)) H1 := rt.setK x1 ok1 r1 n1 i
      suffices hh : RT X κ R0 R1 ((env.set i (slot d1 k1)).set j (slot d2 k2)) ((σ.set i (some v1)).set j (some v2)) H1 from so.nx R1 _ _ H1 hh (x1.sta rt.rs.ok) q
      cases k2 with
      | bor => exact (n2 rfl).elim
      | frz => exact rt1.setF r2 j
      | own =>
        obtain ⟨c, e2, nf, nz, nb, o⟩ := r2
        have e2 : v2 = .ref c := e2
        subst e2
        refine ⟨rt1.rs.setO nz nb o j fun m e' q1 q2 => ?_, rt1.ext, fun m d' b' q1 q2 => ?_⟩
        · rcases set_get q1 with ⟨z0, z⟩ | ⟨nn, z⟩
          · subst z0
            cases k1 with
            | frz => cases z
            | bor => cases z
            | own =>
              have hl : m < σ.length := by
                rw [← rt.rs.len]
                have := (List.getElem?_eq_some_iff.mp q1).1
                simpa using this
              rw [List.getElem?_set_self hl] at q2
              exact (o1 rfl 0 _ rfl rfl (by simpa using q2.symm)).elim
          · rw [List.getElem?_set_ne (Ne.symm nn)] at q2
            obtain ⟨c', q3, _, _, oc⟩ := rt.rs.ow m e' z
            rw [q2] at q3
            cases q3
            obtain ⟨ob, ho⟩ := oc.there
            rw [nf] at ho
            cases ho
        · rcases set_get q1 with ⟨z0, z⟩ | ⟨nn, z⟩
          · subst z0
            have hl : m < (σ.set i (some v1)).length := by
              rw [← rt1.rs.len]
              have := (List.getElem?_eq_some_iff.mp q1).1
              simpa using this
            rw [List.getElem?_set_self hl] at q2
            cases q2
            exact rt.ext.back nf
          · rw [List.getElem?_set_ne (Ne.symm nn)] at q2
            exact rt1.nw m d' b' z q2
end
end Kn
/-! enumerate over a tuple -/
namespace PySem
open Sem (wp)
set_option maxHeartbeats 1000000 in
theorem kn_enum_new {v : Value} {o : Obj} {Hh : Heap → Prop} (B : Begins v o Hh) :
    Meets (Builtin.«enumerate.__new__» ⟨[.type "enumerate", v], []⟩) (fun _ Rr s => Hh s.heap ∧
      Rr (.ok (.ret (.ref (s.heap.push o).objs.size))) { s with heap := (s.heap.push o).push { cls := .type "enumerate", data := .fields #[.none, .bool false, .ref s.heap.objs.size, rawInt 0, .none, .none] } }) :=
  .of_wp fun prog w A Rr s hyp => by
    obtain ⟨hp, gg, dd, tk, os⟩ := s; obtain ⟨first, rest⟩ := hyp
    have sub0 := sub_enumerate
    have begin : ∀ {A2 : Around} {E2 : Value → Shared → Prop} {Q2 : Value → Shared → Prop}, Q2 (.ref hp.objs.size) ⟨hp.push o, gg, dd, tk, os⟩ → wpAny (model prog w) A2 (pyIter v) Q2 E2 ⟨hp, gg, dd, tk, os⟩ :=
      fun z => B.iter prog w _ _ ⟨hp, gg, dd, tk, os⟩ _ first z
    wp_walk using begin
    refine wpAny_stack_any fun st => wpAny_pure ?_
    split
    · rename_i c _ _ _ _ _
      cases (c == Value.type "enumerate")
      · wp_walk using begin
        exact ⟨_, rfl, rest⟩
      · wp_walk using begin
        exact ⟨_, rfl, rest⟩
    · wp_walk using begin
      exact ⟨_, rfl, rest⟩
theorem kn_enum_begins {prog : Program} {w : World} {A : Around} {E : Value → Shared → Prop} {s : Shared} {v : Value} {o : Obj} {Hh : Heap → Prop} {Q : Value → Shared → Prop} (B : Begins v o Hh) (h1 : Hh s.heap)
    (hyp : ∀ h', IsEnum h' (s.heap.objs.size + 1) s.heap.objs.size 0 .none → h'.get? s.heap.objs.size = some o → (∀ b ob, s.heap.get? b = some ob → h'.get? b = some ob) → Q (.ref (s.heap.objs.size + 1)) { s with heap := h' }) :
    wpAny (model prog w) A (call (.type "enumerate") [v]) Q E s := by
  refine callType_new F.called_enumerate (by decide) (F.typeCall_enumerate_1 _) (F.newCall_enumerate_1 _) (fun obj => F.args_object_init_2 obj _) F.entry_enumerate_new (kn_enum_new B) ⟨h1, ?_⟩
  have grown : (s.heap.push o).objs.size = s.heap.objs.size + 1 := Heap.size_push ..
  show _ ∧ _
  rw [grown]
  have isE : IsEnum ((s.heap.push o).push { cls := .type "enumerate", data := .fields #[.none, .bool false, .ref s.heap.objs.size, rawInt 0, .none, .none] }) (s.heap.objs.size + 1) s.heap.objs.size 0 .none := by
    have z := Heap.get?_push_size (s.heap.push o) (o := { cls := .type "enumerate", data := .fields #[.none, .bool false, .ref s.heap.objs.size, rawInt 0, .none, .none] }) rfl
    rw [grown] at z
    exact z
  exact ⟨⟨_, isE, rfl⟩, hyp _ isE (Heap.get?_push_of_some _ (Heap.get?_push_size _ B.free)) fun b ob x => Heap.get?_push_of_some _ (Heap.get?_push_of_some _ x)⟩
end PySem
namespace Kn
open PySem PySem.Spec L2
/-- the tuple at a, its items in new pairs with their places -/
def ItE (K : PySem.W.Frag) (a : Addr) : It :=
  ⟨fun i H => ∃ (xs : List V) (x : V), SqT K H a xs ∧ xs[i]? = some x, fun i H v H' => ∃ T x, v = .ref T ∧ H T = none ∧ H' = upd H T (.tup [.int (i : Nat), x]) ∧ ∀ xs, SqT K H a xs → xs[i]? = some x, fun i H => ∃ xs : List V, SqT K H a xs ∧ xs.length = i⟩
theorem turn_enumT {P : Program} {w : World} {K : PySem.W.Frag} {elts : List Expr} {kk : Nat} {tpos : Pos} (a e it : Addr) (nea : a ≠ it) (nee : e ≠ a) :
    Turn P w K (.Tuple elts kk tpos) (ItE K a) [e, it] e (fun i h => (∃ old, IsEnum h e it ((i : Nat) : Int) old) ∧ h.IsTupleIter it a i ∧ e ≠ it) where
  mem := by simp
  obj := fun i h st b hb => by
    obtain ⟨⟨old, isE⟩, ⟨o, ho, hc, hd⟩, _⟩ := st
    rcases (show b = e ∨ b = it by simpa using hb) with z | z
    · rw [z]
      exact ⟨_, isE, fun v q => nomatch q⟩
    · rw [z]
      exact ⟨o, ho, fun v q => by rw [hd] at q; cases q⟩
  keep := fun i h h' st k => by
    obtain ⟨⟨old, isE⟩, hi, ne⟩ := st
    exact ⟨⟨old, k e (by simp) _ isE⟩, hi.at fun o q => k it (by simp) o q, ne⟩
  item := by
    intro X hP hw hK hc i pins s σ H E I hf st hg
    subst hP hw hK
    obtain ⟨⟨old, isE⟩, hit, ne⟩ := st
    obtain ⟨xs, x, hq, hx⟩ := hg
    obtain ⟨its, rv, tupA, hz⟩ := I.tuple hq
    obtain ⟨u, hu, ru⟩ := rv.get hx
    have elt : e < s.heap.objs.size := Heap.lt_size isE
    have ilt : it < s.heap.objs.size := by obtain ⟨_, q, _⟩ := hit; exact Heap.lt_size q
    have DD := Draws.tuple (prog := X.prog) (w := X.w) (A := X.A.in1) (I.ok.hd hc) it a nea its.toArray
    have hlt : i < its.toArray.size := by
      have z := (List.getElem?_eq_some_iff.mp hu).1
      simpa using z
    refine wpAny_pyNext_enum_itemC DD isE ⟨hit, show s.heap.IsTuple a its.toArray from tupA⟩ hlt ne (by simp [ne, nee]) fun y h' tk hy out hit' hT _ hk => ?_
    have hy2 : y = u := by
      have z : its.toArray[i]? = some y := hy
      rw [show its.toArray[i]? = some u by simpa using hu] at z
      exact (Option.some.inj z).symm
    subst hy2
    refine ⟨_, rfl, wpAny_letOwnedTupleGo_enum (s := { s with heap := h', toks := tk + 1 }) out fun h'' isE' sb => ?_⟩
    have hT2 : h''.get? s.heap.objs.size = some { cls := .type "tuple", data := .seq #[.int i tk, y] } := (sb.2 _ (Nat.ne_of_gt elt)).trans hT
    have new : ObjOk X.prog X.w (upd H s.heap.objs.size (.tup [.int (i : Nat), x])) h'' s.heap.objs.size (.tup [.int (i : Nat), x]) :=
      ⟨by show 2 ≤ sizeLine; decide, [.int i tk, y], .cons ⟨_, rfl⟩ (.cons ru .nil), ⟨_, hT2, rfl, _, rfl⟩⟩
    have I1 : Inv X pins σ (upd H s.heap.objs.size (.tup [.int (i : Nat), x])) { s with heap := h'', toks := tk + 1 } :=
      I.turnedNew (ch := [e, it]) (fun b ob hb q => (sb.2 b (fun z => hb (by simp [z]))).trans (hk b ob (fun z => hb (by simp [z])) (fun z => hb (by simp [z])) q)) hf (Nat.le_refl _) new
    refine ⟨.ref s.heap.objs.size, _, I1, rfl, ⟨_, x, rfl, I.hok.fresh (Nat.le_refl _), rfl, fun ys hy => by rw [I.tuple_inj hy hq]; exact hx⟩, ⟨⟨y, ?_⟩, hit'.1.at fun o q => (sb.2 it (Ne.symm ne)).trans q, ne⟩, fun b hb => ?_⟩
    · have e1 : ((i + 1 : Nat) : Int) = (i : Int) + 1 := by omega
      rw [e1]
      exact isE'
    · have hb' : b < s.heap.objs.size := by
        rcases (show b = e ∨ b = it by simpa using hb) with z | z
        · rw [z]; exact elt
        · rw [z]; exact ilt
      rw [upd_ne (Nat.ne_of_lt hb')]
      exact (hf b hb).1
  done := by
    intro X hP hw hK hc i pins s σ H E I hf st hg
    subst hP hw hK
    obtain ⟨⟨old, isE⟩, hit, ne⟩ := st
    obtain ⟨xs, hq, hx⟩ := hg
    obtain ⟨its, rv, tupA, hz⟩ := I.tuple hq
    obtain ⟨f0, f1, f2, f3, f4, f5⟩ := hf it (by simp)
    have hl := rv.length
    have DD := Draws.tuple (prog := X.prog) (w := X.w) (A := X.A.in1) (I.ok.hd hc) it a nea its.toArray
    have e0 : its.toArray.size = i := by
      rw [List.size_toArray]
      omega
    rw [← e0] at isE hit
    exact wpAny_pyNext_enum_endD DD isE ⟨hit, show s.heap.IsTuple a its.toArray from tupA⟩ fun h' kept => ⟨rfl, I.turned (t' := s.toks) (fun b o hb q => kept b o hb q) f0 f1 f3 f4 f5⟩
  self := fun A i s Q E st h => by
    obtain ⟨⟨_, isE⟩, _⟩ := st
    exact wpAny_pyIter_enum isE h
/-- what is walked, by its value -/
def PIv (X : Cx) (tg : Expr) (r : V → Hp → (It → Hp → Prop) → Prop) : Prop := ∀ (pins : List (Addr × Obj)) (s : Shared) (σ : St) (H : Hp) (x : V) (v : Value) (Rr : It → Hp → Prop), Inv X pins σ H s → RelV x v → r x H Rr → wpAny (model X.prog X.w) X.A (pyIter v) (PIE X pins σ tg Rr) X.xe s
theorem piv_or {X : Cx} {tg : Expr} {r r' : V → Hp → (It → Hp → Prop) → Prop} (h : PIv X tg r) (h' : PIv X tg r') : PIv X tg (fun x H Rr => r x H Rr ∨ r' x H Rr) := fun pins s σ H x v Rr I rx q => q.elim (h pins s σ H x v Rr I rx) (h' pins s σ H x v Rr I rx)
theorem pi_val {X : Cx} {tg l : Expr} {tl : TE} {r : V → Hp → (It → Hp → Prop) → Prop} (h : PIv X tg r) (hl : PE X l tl) : PI X tg l (fun σ H Rr => tl σ H fun x H1 => r x H1 Rr) := by
  refine ⟨fun pins s σ H Rr I hw => ?_⟩
  exact thn (hl.run pins s σ H _ I hw) fun v s1 ⟨x, H1, I1, r1, q1⟩ => h pins s1 σ H1 x v Rr I1 r1 q1
theorem piv_list {X : Cx} {tg : Expr} : PIv X tg (fun x H Rr => ∃ a, x = .ref a ∧ (∃ xs, SqL X.K H a xs) ∧ Rr (Itl X.K a) H) := by
  intro pins s σ H x v Rr I rx ⟨a, ex, ⟨xs, hq⟩, q⟩
  subst ex
  cases rx
  obtain ⟨its, rv, pl, _⟩ := I.list hq
  refine wpAny_pyIter_list pl.isList ⟨s.heap.objs.size, [s.heap.objs.size], _, _, H, rfl, I.kept (t' := s.toks) fun b o e => Heap.get?_push_of_some _ e, turn_list a _, ⟨_, Heap.get?_push_size _ rfl, rfl, rfl⟩, fun b hb => ?_, q⟩
  rw [show b = s.heap.objs.size by simpa using hb]
  exact I.fpOk (Nat.le_refl _) (I.hok.fresh (Nat.le_refl _))
theorem piv_tup {X : Cx} {tg : Expr} : PIv X tg (fun x H Rr => ∃ a, x = .ref a ∧ (∃ xs, SqT X.K H a xs) ∧ Rr (Itt X.K a) H) := by
  intro pins s σ H x v Rr I rx ⟨a, ex, ⟨xs, hq⟩, q⟩
  subst ex
  cases rx
  obtain ⟨its, rv, pl, _⟩ := I.tuple hq
  refine wpAny_pyIter_tuple (show s.heap.IsTuple a its.toArray from pl) ⟨s.heap.objs.size, [s.heap.objs.size], _, _, H, rfl, I.kept (t' := s.toks) fun b o e => Heap.get?_push_of_some _ e, turn_tuple a _, ⟨_, Heap.get?_push_size _ rfl, rfl, rfl⟩, fun b hb => ?_, q⟩
  rw [show b = s.heap.objs.size by simpa using hb]
  exact I.fpOk (Nat.le_refl _) (I.hok.fresh (Nat.le_refl _))
/-- enumerate of a list or a tuple -/
def jEnum (K : PySem.W.Frag) (ta : TA) : TI := fun σ H Rr => ta σ H fun vs H1 => (∃ a xs, vs = [.ref a] ∧ SqL K H1 a xs ∧ Rr (Ite K a) H1) ∨ (∃ a xs, vs = [.ref a] ∧ SqT K H1 a xs ∧ Rr (ItE K a) H1)
theorem pi_enumA {X : Cx} {e : Expr} {ta : TA} {p pos tpos : Pos} {elts : List Expr} {kk : Nat} (hg : Gl X "enumerate") (hm : X.mg "enumerate" = none) (ha : PA X [e] ta) (hs : starEach [e] X.env = [(false, eval e X.env)] := by rfl) :
    PI X (.Tuple elts kk tpos) (.Call (.Name "enumerate" p) [e] [] pos) (jEnum X.K ta) := by
  refine ⟨fun pins s σ H Rr I h => ?_⟩
  refine PyProof.Rows.Call_ (ld_blt I hg hm PyProof.Rows.boot_enumerate (PyProof.Rows.callWith_type1 (thn (ha.run pos pins s σ H _ I h) fun us s1 ⟨vs, H1, I1, r1, q1⟩ => ?_) hs rfl))
  have fps : ∀ b ∈ [s1.heap.objs.size + 1, s1.heap.objs.size], FpOk X pins H1 b := fun b hb => by
    have hle : s1.heap.objs.size ≤ b := by
      rcases (show b = s1.heap.objs.size + 1 ∨ b = s1.heap.objs.size by simpa using hb) with z | z
      · rw [z]; exact Nat.le_add_right _ _
      · rw [z]; exact Nat.le_refl _
    exact I1.fpOk hle (I1.hok.fresh hle)
  rcases q1 with ⟨a, xs, ex, hq, q⟩ | ⟨a, xs, ex, hq, q⟩ <;> subst ex
  · cases r1 with
    | cons r rr =>
      cases rr
      cases r
      obtain ⟨its, rv, listA, _⟩ := I1.list hq
      refine kn_enum_begins (begins_list a its.toArray) listA.isList fun h' isE hit hk => wpAny_pyIter_enum isE ?_
      exact ⟨s1.heap.objs.size + 1, [s1.heap.objs.size + 1, s1.heap.objs.size], _, _, H1, rfl, I1.kept (t' := s1.toks) hk, turn_enum a (s1.heap.objs.size + 1) s1.heap.objs.size, ⟨⟨.none, isE⟩, ⟨_, hit, rfl, rfl⟩, Nat.succ_ne_self _⟩, fps, q⟩
  · cases r1 with
    | cons r rr =>
      cases rr
      cases r
      obtain ⟨its, rv, tupA, _⟩ := I1.tuple hq
      have alt : a < s1.heap.objs.size := tupA.lt
      refine kn_enum_begins (begins_tuple a its.toArray) (show s1.heap.IsTuple a its.toArray from tupA) fun h' isE hit hk => wpAny_pyIter_enum isE ?_
      exact ⟨s1.heap.objs.size + 1, [s1.heap.objs.size + 1, s1.heap.objs.size], _, _, H1, rfl, I1.kept (t' := s1.toks) hk, turn_enumT a (s1.heap.objs.size + 1) s1.heap.objs.size (Nat.ne_of_lt alt) (Nat.ne_of_gt (Nat.lt_succ_of_lt alt)), ⟨⟨.none, isE⟩, ⟨_, hit, rfl, rfl⟩, Nat.succ_ne_self _⟩, fps, q⟩
/-! ### enumerate, by plain data -/
def enumD (ds : List D) : List D := ds.mapIdx fun (i : Nat) (d : D) => D.tup [.int (i : Nat), d]
section
variable {X : Cx} {κ : BoxKit} {W : WX} {R0 : Bg}
theorem enumD_len (ds : List D) : (enumD ds).length = ds.length := by simp [enumD]
theorem enumD_get {ds : List D} {i : Nat} (h : i < ds.length) : (enumD ds)[i]? = some (.tup [.int (i : Nat), ds[i]]) := by simp [enumD, h]
theorem new_pair {R : Rg} {H : Hp} (ok : Rok κ R H) {T : Addr} {v u : V} {d e : D} (n : H T = none) (h1 : Rep X.K R H v d) (h2 : Rep X.K R H u e) : ∃ R', Ext R H R' (upd H T (.tup [v, u])) ∧ Rok κ R' (upd H T (.tup [v, u])) ∧ Rep X.K R' (upd H T (.tup [v, u])) (.ref T) (.tup [d, e]) := by
  obtain ⟨x, ok'⟩ := ext_new ok (.tup [v, u]) n
  refine ⟨_, x, ok', ?_⟩
  unfold Rep
  exact ⟨T, [v, u], rfl, .inl ⟨upd_same, .inr rfl⟩, .cons (h1.ext ok x) (.cons (h2.ext ok x) .nil)⟩
theorem Itm.enumL {R : Rg} {H : Hp} {a : Addr} {vs : List V} {ds : List D} (t : LAt R H a vs) (r : RepL X.K R H vs ds) : Itm X.K κ (Ite X.K a) R H (enumD ds) := fun R' H' x ok' => by
  have t' := t.sta x
  have r' := r.sta x
  rw [enumD_len]
  refine ⟨fun i hi => ?_, ⟨vs, t'.sq, by rw [r.len]; exact Nat.le_refl _⟩⟩
  obtain ⟨v, e1, e2⟩ := r'.get (List.getElem?_eq_getElem hi)
  refine ⟨⟨vs, v, t'.sq, e1⟩, fun y H'' ⟨T, z, ey, n, eh, hy⟩ => ?_⟩
  subst ey eh
  rw [hy vs t'.sq] at e1
  cases e1
  obtain ⟨R2, x2, ok2, r2⟩ := new_pair (X := X) ok' n (rep_int (i := (i : Nat))) e2
  exact ⟨R2, x2, ok2, _, enumD_get hi, r2⟩
theorem Itm.enumT {R : Rg} {H : Hp} {a : Addr} {vs : List V} {ds : List D} (t : TAt X.K R H a vs) (r : RepL X.K R H vs ds) : Itm X.K κ (ItE X.K a) R H (enumD ds) := fun R' H' x ok' => by
  have t' := t.sta x
  have r' := r.sta x
  rw [enumD_len]
  refine ⟨fun i hi => ?_, ⟨vs, t'.sq, r.len⟩⟩
  obtain ⟨v, e1, e2⟩ := r'.get (List.getElem?_eq_getElem hi)
  refine ⟨⟨vs, v, t'.sq, e1⟩, fun y H'' ⟨T, z, ey, n, eh, hy⟩ => ?_⟩
  subst ey eh
  rw [hy vs t'.sq] at e1
  cases e1
  obtain ⟨R2, x2, ok2, r2⟩ := new_pair (X := X) ok' n (rep_int (i := (i : Nat))) e2
  exact ⟨R2, x2, ok2, _, enumD_get hi, r2⟩
/-- a list's or a tuple's items -/
def seqD : D → (List D → Prop) → Prop
  | .lst ds, Q => Q ds
  | .tup ds, Q => Q ds
  | _, _ => False
@[simp] def iSeq (a : WE) : WI := fun env Q E => a env (fun d k => k ≠ .bor ∧ seqD d Q) E
theorem si_seq {tg e : Expr} {we : WE} (he : SE X κ W e we) : SI X κ W tg e (iSeq we) := by
  refine pi_of (pi_val (piv_or piv_list piv_tup) he) fun σ H Rr ⟨R, env, Qd, Ed, rs, h, hq, hx⟩ => ?_
  refine ⟨R, env, _, _, rs, h, fun d k v R1 H1 x1 ok1 r1 ⟨nb, q⟩ => ?_, hx⟩
  obtain ⟨R2, x2, ok2, r2, _⟩ := freeze1 ok1 x1 r1 nb
  unfold seqD at q
  split at q
  · unfold Rep at r2
    obtain ⟨a, vs, rfl, t, r⟩ := r2
    exact .inl ⟨a, rfl, ⟨vs, t.sq⟩, hq _ _ R2 H1 x2 ok2 (Itm.list t r) q⟩
  · unfold Rep at r2
    obtain ⟨a, vs, rfl, t, r⟩ := r2
    exact .inr ⟨a, rfl, ⟨vs, t.sq⟩, hq _ _ R2 H1 x2 ok2 (Itm.tup t r) q⟩
  · exact q.elim
/-- enumerate(e), e a list or a tuple -/
@[simp] def iEnumA (a : WE) : WI := fun env Q E => a env (fun d k => k ≠ .bor ∧ seqD d fun es => Q (enumD es)) E
theorem si_enum {e : Expr} {we : WE} {p pos tpos : Pos} {elts : List Expr} {kk : Nat} (hg : Gl X "enumerate") (hm : X.mg "enumerate" = none) (he : SE X κ W e we) (hs : starEach [e] X.env = [(false, eval e X.env)] := by rfl) :
    SI X κ W (.Tuple elts kk tpos) (.Call (.Name "enumerate" p) [e] [] pos) (iEnumA we) := by
  refine pi_of (pi_enumA hg hm (pa_cons he pa_nil (by rw [hs]; rfl)) hs) fun σ H Rr ⟨R, env, Qd, Ed, rs, h, hq, hx⟩ => ?_
  refine ⟨R, env, _, _, rs, h, fun d k v R1 H1 x1 ok1 r1 ⟨nb, q⟩ => ?_, hx⟩
  obtain ⟨R2, x2, ok2, r2, _⟩ := freeze1 ok1 x1 r1 nb
  unfold seqD at q
  split at q
  · unfold Rep at r2
    obtain ⟨a, vs, rfl, t, r⟩ := r2
    exact .inl ⟨a, vs, rfl, t.sq, hq _ _ R2 H1 x2 ok2 (Itm.enumL t r) q⟩
  · unfold Rep at r2
    obtain ⟨a, vs, rfl, t, r⟩ := r2
    exact .inr ⟨a, vs, rfl, t.sq, hq _ _ R2 H1 x2 ok2 (Itm.enumT t r) q⟩
  · exact q.elim
end
end Kn
namespace Kn
open PySem PySem.Spec

/-! ### own exceptions: class C(B): def __init__(self, p): super().__init__('..'); self.p = p -/
def supA (par : Str) (p1 p2 : Pos) : Arguments := { posonlyargs := [], args := [{ arg := "self", annotation := none, pos := p1 }, { arg := par, annotation := none, pos := p2 }], vararg := none, kwonlyargs := [], kw_defaults := [], kwarg := none, defaults := [] }
def supB (par msg : Str) (q : Nat → Pos) : List Stmt :=
  [.Expr (.Call (.Attribute (.Call (.Name "super" (q 0)) [] [] (q 1)) "__init__" (q 2)) [.Constant (.str msg) 0 (q 3)] [] (q 4)) (q 5), .Assign [.Attribute (.Name "self" (q 6)) par (q 7)] (.Name par (q 8)) (q 9)]
def supS (par : Str) : Scope := { kind := .function, names := [(PySem.Str.ofString "self", .local), (par, .local), (PySem.Str.ofString "__class__", .free), (PySem.Str.ofString "super", .globalImplicit)], isGenerator := false, isCoroutine := false, more := [] }
abbrev exB : List Value := [.type "Exception", .type "BaseException", .type "object"]
/-- what the written part says of the class at C and its __init__ at fI -/
structure SupC (P : Program) (K : PySem.W.Frag) (C : Addr) (par : Str) : Prop where
  kl : PySem.W.excInitIn K C exB "Exception.__new__" = true
  ov : PySem.W.excOver K C exB = true
  hd : PySem.W.hasDictIn K C = true
  sa : PySem.W.findIn K (.ref C) "__setattr__" = some (some (.builtin "object.__setattr__"))
  ga : PySem.W.findIn K (.ref C) "__getattribute__" = some (some (.builtin "BaseException.__getattribute__"))
  gg : PySem.W.findIn K (.ref C) "__getattr__" = some none
  na : PySem.W.findIn K (.ref C) par = some none
  ex : PySem.W.subIn K (.ref C) (.type "BaseException") = some true
  eX : PySem.W.subIn K (.ref C) (.type "Exception") = some true
  ty : PySem.W.typeIn K (.ref C) = some (.type "type")
  kp : PySem.W.keepIn K (.ref C) = true
  cc : PySem.W.subIn K (.ref C) (.ref C) = some true
  op : PySem.W.nsIn K cStatics "thirdparty.any" = some none
  su : PySem.W.ks_superIn K C C "__init__" = some (some (.builtin "Exception.__init__"))
  fn : ∃ fI : Addr, PySem.W.findIn K (.ref C) "__init__" = some (some (.ref fI)) ∧ PySem.W.isFn K (.ref fI) = true ∧
    ∃ (oc : Value) (od : Option Addr) (osl : Array (Option Value)) (nm qual msg : Str) (p1 p2 : Pos) (q : Nat → Pos) (doc pm ct : Value) (an : Option Addr) (cc cda : Addr),
      ((q 2).endLine == (q 4).line) = true ∧ K.lookup fI = some ⟨oc, od, .func (PySem.W.fnX nm qual (supA par p1 p2) (supB par msg q) (supS par) [("__class__", cc)] .none .none doc pm an (.ref cda) ct), osl⟩ ∧ PySem.W.codeIn K (.ref cda) qual = true ∧
      (∃ (cl : Value) (cld : Option Addr) (csl : Array (Option Value)), K.lookup cc = some ⟨cl, cld, .cell (some (.ref C)), csl⟩) ∧
      (∃ (ccl : Value) (cdd : Option Addr) (ccs : Array (Option Value)) (vs : Array Value) (file : Str) (tf : Tok), K.lookup cda = some ⟨ccl, cdd, .fields vs, ccs⟩ ∧ vs[2]? = some (.str file tf) ∧ ((P.main.file : Str) == file) = true)
  top : (P.main.scope.names.lookup ("super" : Str)).isSome = false
  pn : par = "at" ∨ par = "word"

section
open PySem.W PySem.Calls PyProof.Rows
variable {prog : Program} {w : World} {A : Around} {E : Value → Shared → Prop} {h : Heap} {g : Array GenState} {d : Drawn} {t : Nat} {os : OsState}
theorem boot_super : bootBuiltins "super" = some (.type "super") := by decide +kernel
/-- self.f = v, the first one -/
theorem exc_put {K : Frag} {name : Str} {v : Value} {x C t0 : Addr} {Q : Unit → Shared → Prop} (X : K.In h) (hx : h.get? x = some (excObj C t0 none .none)) (ov : excOver K C exB = true) (hd : hasDictIn K C = true)
    (sa : findIn K (.ref C) "__setattr__" = some (some (.builtin "object.__setattr__"))) (na : findIn K (.ref C) name = some none)
    (hq : ∀ h' tk' dx, (∀ b o, b ≠ x → h.get? b = some o → h'.get? b = some o) → h.objs.size ≤ dx → dx ≠ x → h'.get? x = some (excObj C t0 (some dx) .none) → h'.Ns1 dx (fun y => if y = name then some v else none) → Q () ⟨h', g, d, tk', os⟩) :
    wpAny (model prog w) A (setAttr (.ref x) name v) Q E ⟨h, g, d, t, os⟩ := by
  have hxs : x ≠ h.objs.size := Nat.ne_of_lt (Heap.lt_size hx)
  refine set_plain (od := none) X ⟨hx, rfl, rfl, trivial⟩ sa (osa_openX (od := none) (r := none) PySem.F.store_Exception X ⟨hx, rfl, rfl, trivial⟩ ov (by unfold takerIn; rw [na] <;> rfl) fun b => ?_)
  obtain ⟨cd, hc, hd'⟩ := any_some hd
  refine wpAny_bind (wpAny_pure (wpAny_bind (instanceDict_exc hx (looks_clsIn X hc) hd' ?_)))
  show wpAny _ _ (Builtin.ObjectAttr.storeInDict h.objs.size (.str name t) name v) _ _ _
  have hN : (((h.push (dictOf [] 0)).update x fun o => { o with dict := some h.objs.size })).Ns h.objs.size (fun _ => none) :=
    ⟨_, #[], _, (Heap.get?_update_ne _ _ _ _ hxs.symm).trans (Heap.get?_push_at rfl rfl), rfl, fun e he => absurd he (by simp), fun _ => rfl⟩
  refine HandSPX.store_in_new hN fun h' tk' hn hs => ?_
  have hx1 : (h.push (dictOf [] 0)).get? x = some (excObj C t0 none .none) := Heap.get?_push_of_some _ hx
  refine hq h' tk' h.objs.size (fun b o hb ho => ?_) (Nat.le_refl _) hxs.symm ?_ hn
  · exact (hs.2 b (Nat.ne_of_lt (Heap.lt_size ho))).trans ((Heap.get?_update_ne _ _ _ _ hb).trans (Heap.get?_push_of_some _ ho))
  · exact (hs.2 x hxs).trans (Heap.get?_update_self _ hx1 rfl)
/-- super().__init__('..') at the class's own line: the object's args are laid anew -/
theorem sup_init {K : Frag} {x C t0 so : Addr} {u : Value} {Q : Value → Shared → Prop} (X : K.In h) (kl : excInitIn K C exB "Exception.__new__" = true) (hx : h.get? x = some (excObj C t0 none .none)) (hu : h.get? so = some (kxs_mw "Exception.__init__" x))
    (hq : ∀ h' t1, (∀ b o, b ≠ x → h.get? b = some o → h'.get? b = some o) → h'.get? x = some (excObj C t1 none .none) → Q .none ⟨h', g, d, t, os⟩) :
    wpAny (model prog w) A (call (.ref so) [u]) Q E ⟨h, g, d, t, os⟩ := by
  obtain ⟨nm, N', qn, bs, bm, hdct, sn, sub, ab, col, dd, k0, k1, k2, k3, k5, hC, hT⟩ := excInit_of X kl
  refine wpAny_call (codeAny_of_tree ?_)
  show wpAny _ A.in1 (callAny (.ref so) ⟨[u], []⟩) _ _ _
  simp only [callAny]
  refine wpAny_bind (wpAny_load hu ?_)
  simp only [kxs_mw, show (Value.type "method-wrapper" == Value.type "method" || Value.type "method-wrapper" == Value.type "builtin_function_or_method" || Value.type "method-wrapper" == Value.type "method-wrapper") = true by decide, if_true]
  refine KFB.if_so (by decide) ?_
  refine wpAny_bind (check_bound_init PySem.F.excBase_Exception.toExcCallFacts hC hx rfl ?_)
  refine wpAny_bind (wpAny_pure (wpAny_pure ?_))
  refine ⟨plainId_quiet PySem.F.excBase_Exception.init.plain _, codeAny_builtin PySem.F.excBase_Exception.initEntry ?_⟩
  refine exc_init_tree (cls := .ref C) (t0 := t0) (dv := none) (c2 := .none) (c3 := .none) (b4 := .bool false) hx (by rw [sizeLine_eq]; exact (by decide : (1 : Nat) ≤ 16777216)) fun h' k e' _ => hq h' h.objs.size k e'
/-- C.__init__(x, v) -/
theorem init_run {R : Result → Shared → Prop} {K : Frag} {mg : Str → Option Value} {x C t0 fI : Addr} {v : Value} {par : Str} (X : K.In h) (T : SupC prog K C par) (hr : A.depth < recursionLimit) (hl : h.NoLimit) (hg : h.Ns mainGlobals mg) (hm : mg "super" = none)
    (hb : ∃ mb, h.Ns builtinsNs mb ∧ ∀ x : Str, x ≠ "__name__" → mb x = bootBuiltins x) (hx : h.get? x = some (excObj C t0 none .none)) (hxK : (K.lookup x).isSome = true → False) (hf : findIn K (.ref C) "__init__" = some (some (.ref fI)))
    (hq : ∀ h' tk' t1 dx, (∀ b o, b ≠ x → h.get? b = some o → h'.get? b = some o) → h.objs.size ≤ dx → dx ≠ x → h'.get? x = some (excObj C t1 (some dx) .none) → h'.Ns1 dx (fun y => if y = par then some v else none) → R (.ok (.ret .none)) ⟨h', g, d, tk', os⟩) :
    codeAny (model prog w) A (.call (.ref fI) ⟨[.ref x, v], []⟩) R ⟨h, g, d, t, os⟩ := by
  obtain ⟨fI', e1, hfn, oc, od, osl, nm, qual, msg, p1, p2, q, doc, pm, ct, an, cc, cda, hln, lk, hcd, ⟨cl, cld, csl, lcc⟩, ⟨ccl, cdd, ccs, vs, file, tf, lcd, hvs, hfile⟩⟩ := T.fn
  cases Option.some.inj (Option.some.inj (hf.symm.trans e1))
  have lF : (supS par).names.lookup ("self" : Str) = some .local := rfl
  have facts : (supS par).names.lookup ("super" : Str) = some .globalImplicit ∧ (supS par).names.lookup ("__class__" : Str) = some .free ∧ (supS par).names.lookup par = some .local ∧
      bindArgs (fnX nm qual (supA par p1 p2) (supB par msg q) (supS par) [("__class__", cc)] .none .none doc pm an (.ref cda) ct) ⟨[.ref x, v], []⟩ = pure [(("self" : Str), .ref x), (par, v)] ∧
      [(("self" : Str), Value.ref x), (par, v)].reverse.lookup ("self" : Str) = some (.ref x) ∧ [(("self" : Str), Value.ref x), (par, v)].reverse.lookup par = some v ∧ (par == ("__debug__" : Str)) = false := by
    rcases T.pn with e | e <;> subst e <;> exact ⟨rfl, rfl, rfl, rfl, rfl, rfl, rfl⟩
  obtain ⟨lS, lC, lP, hbd, mself, mpar, hdb⟩ := facts
  refine ks_codeAny_call_defAt (fd := fnX nm qual (supA par p1 p2) (supB par msg q) (supS par) [("__class__", cc)] .none .none doc pm an (.ref cda) ct) (body := supB par msg q) (binds := [(("self" : Str), .ref x), (par, v)]) hr (X _ _ lk) rfl hl (codeRec_of X hcd) rfl (BindsTo.of_eq ?cb) ?c1 ?c2 (fun h1 hn k1 => ?_) rfl rfl rfl
  case cb => exact hbd
  case c1 =>
    intro y hy
    simp only [supS, List.mem_cons, List.not_mem_nil, or_false] at hy
    rcases hy with rfl | rfl | rfl | rfl <;> simp
  case c2 =>
    intro y hy
    simp only [List.mem_cons, List.not_mem_nil, or_false] at hy
    rcases hy with rfl | rfl
    · exact lF
    · exact lP
  have X1 : K.In h1 := X.keeps k1
  obtain ⟨mb, hb1, hb2⟩ := hb
  have hx1 := k1 _ _ hx
  obtain ⟨cd, hcd1, hcd2⟩ := any_some T.hd
  obtain ⟨oD, hD1, hD2⟩ : ∃ oD, h1.get? C = some oD ∧ oD.data = .cls cd := by
    unfold clsIn at hcd1
    split at hcd1
    · rename_i c0 d0 cd' sl ho
      cases hcd1
      exact ⟨_, X1 _ _ ho, rfl⟩
    · cases hcd1
  have xC : x ≠ C := ks_ne X1 (ox := excObj C t0 none .none) (odx := none) ⟨hx1, rfl, rfl, trivial⟩ hcd1
  have he : ∀ env : Env, eval (.Call (.Attribute (.Call (.Name "super" (q 0)) [] [] (q 1)) "__init__" (q 2)) [.Constant (.str msg) 0 (q 3)] [] (q 4)) env = (do
      let ov ← attributeBase (.Call (.Name "super" (q 0)) [] [] (q 1)) "__init__" env (eval (.Call (.Name "super" (q 0)) [] [] (q 1)) env)
      standAt (q 2).atName
      let (f, first) ← holding [ov] (getMethod ov "__init__" (do return (← importBound (.Call (.Name "super" (q 0)) [] [] (q 1)) env).getD true))
      callWith (q 4) f first (backTo (q 4) (starEach [.Constant (.str msg) 0 (q 3)] env)) []) := fun env => by
    rw [arm_eval_Call]
    have hp : methodCallPos true (.Call (.Name "super" (q 0)) [] [] (q 1)) env (q 2) (q 4) = pure (q 4) := by unfold methodCallPos; simp [hln]
    have hf : methodCallForm ([Expr.Constant (.str msg) 0 (q 3)].length + ([] : List Keyword).length) (backTo (q 4) (starEach [.Constant (.str msg) 0 (q 3)] env)) (backToKw (q 4) (keywordEach [] env)) = true := rfl
    unfold methodCall
    rw [hf, hp]
    rfl
  refine ks_wpAt_execs_cons (ks_wpAt_Expr_any (ks_wpAt_MethodCall (he := he _) (ks_wpAt_super_base (env := callEnv (fnX nm qual (supA par p1 p2) (supB par msg q) (supS par) [("__class__", cc)] .none .none doc pm an (.ref cda) ct) h.objs.size fI) lS lC rfl rfl (X1 _ _ lk) rfl rfl rfl (X1 _ _ lcd) rfl hvs hfile T.top ?_)))
  refine ks_loadName_global rfl lS (loadGlobal_builtin (hg.keeps k1) hm (hb1.keeps k1) ((hb2 _ (by decide)).trans boot_super) ⟨rfl, ?_⟩)
  refine wpAny_loadName_free rfl lC rfl ⟨_, X1 _ _ lcc, rfl⟩ ?_
  refine wpAny_loadName_local rfl lF hn mself ?_
  refine ks_wpAny_isType_cls hD1 hD2 ⟨rfl, ?_⟩
  refine ks_wpAny_call_super hD1 hD2 hx1 rfl (fun c e => by cases e) (looks_subIn X1 T.cc) (fun h2 e2 k2 => ?_)
  have X2 : K.In h2 := X1.keeps k2
  have I2 : InstAt h2 x (excObj C t0 none .none) C none := ⟨k2 _ _ hx1, rfl, rfl, trivial⟩
  have hm1 : alongIn K "__init__" ((cd.mro.dropWhile (· != .ref C)).drop 1) = some (some (.builtin "Exception.__init__")) := by
    have z := T.su
    unfold ks_superIn at z
    rw [hcd1] at z
    exact z
  refine kxs_getMethod kxs_Exception e2 (looks_opaque X2 T.op) (l₀ := cd.mro) (fun A Q E s k q => wpAny_bind ((looks_clsIn X2 hcd1) A _ E s k (wpAny_pure q))) rfl X2 hm1 (I2.type.andThen (looks_subIn X2 T.eX)) xC rfl ?_
  refine ESX.callWith_bound (x := x) ?_
  refine Calls.spliced_cons (Calls.Constant_str (k := 0) (pos := q 3) (Calls.spliced_nil ⟨Heap.get?_push_at rfl rfl, ?_⟩))
  have kp3 : ∀ b o, h2.get? b = some o → (h2.push (kxs_mw "Exception.__init__" x)).get? b = some o := fun b o e => Heap.get?_push_of_some _ e
  refine sup_init (X2.keeps kp3) T.kl (kp3 _ _ (k2 _ _ hx1)) (Heap.get?_push_at rfl rfl) fun h4 t4 k4 hx4 => ?_
  have K4 : ∀ b o, b ≠ x → h1.get? b = some o → h4.get? b = some o := fun b o n e => k4 b o n (kp3 _ _ (k2 _ _ e))
  have X4 : K.In h4 := fun b o e => K4 b o (fun z => hxK (by rw [← z, e] <;> rfl)) (X1 _ _ e)
  have hn4 : h4.Ns h.objs.size (fun y => [(("self" : Str), Value.ref x), (par, v)].reverse.lookup y) := hn.at fun o e => K4 _ o (Nat.ne_of_gt (Heap.lt_size hx)) e
  refine ks_wpAt_execs_cons (ks_wpAt_Assign_Attr (wpAt_of_wpAny (wpAny_Name (wpAny_loadName_local rfl lP hn4 mpar ?_) hdb)))
  refine wpAny_Name (wpAny_loadName_local rfl lF hn4 mself ?_) (by decide)
  refine exc_put X4 hx4 T.ov T.hd T.sa T.na fun h5 t5 dx k5 ds dn hx5 hn5 => ?_
  refine wpAt_of_wpAny (wpAny_execs_nil ?_)
  refine hq h5 _ t4 dx (fun b o n e => k5 b o n (K4 b o n (k1 b o e))) (Nat.le_trans (Nat.le_of_lt hn4.lt) ds) dn hx5 hn5
end
end Kn
namespace Kn
open PySem PySem.Spec L2

/-! ### raise C(e) -/
def tMkS (C : Addr) (par : Str) (ta : TA) : L2.St → Hp → XK → Prop := fun σ H Q => ta σ H fun vs H1 => ∃ y, vs = [y] ∧ ∀ d, H1 d = none → Q (.ref C) (some d) (upd H1 d (.xd [(par, y)]))
section
variable {X : Cx}
theorem pmk_sup {x par : Str} {C : Addr} {e : Expr} {ta : TA} {p pos : Pos} (T : SupC X.prog X.K C par) (hr : Room 1 X.A) (hms : X.mg "super" = none) (hg : Gl X x) (hm : X.mg x = some (.ref C)) (ha : PA X [e] ta)
    (hdb : (x == ("__debug__" : Str)) = false := by decide) (he : starEach [e] X.env = (false, eval e X.env) :: starEach [] X.env := by rfl) (hpl : (backTo pos (starEach [] X.env)).any (·.1) = false := by rfl) :
    L2N.PMk X (.Call (.Name x p) [e] [] pos) (tMkS C par ta) := by
  intro pins s σ H Q I h
  refine wpAny_Call_Name_kw (ld_glob I hg hm ?_ hdb)
  refine PySem.W.callWith_K (h₀ := X.base) I.ok.mod.kin T.kp (thn (ha.run pos pins s σ H _ I h) fun us s1 ⟨vs, H1, I1, r1, y, ev, q1⟩ => ⟨I1.kIn, ?_⟩) he hpl
  subst ev
  cases r1 with
  | @cons _ u _ _ ru r0 =>
    cases r0
    show wpAny _ _ (call (.ref C) [u]) _ _ _
    obtain ⟨hp, g, dr, tk, os⟩ := s1
    obtain ⟨nm, N', qn, bs, bm, hdct, sn, sub, ab, col, dd, k0, k1, k2, k3, k5, hC, hT⟩ := PySem.W.excInit_of I1.kIn T.kl
    obtain ⟨fI, hf, hfn, _⟩ := T.fn
    obtain ⟨oI, hoI, hcI⟩ : ∃ oI, hp.get? fI = some oI ∧ oI.cls = .type "function" := by
      obtain ⟨o, ho, hc⟩ := Option.map_eq_some_iff.mp (show (X.K.lookup fI).map (·.cls) = some (.type "function") from beq_iff_eq.mp hfn)
      exact ⟨o, I1.kIn _ _ ho, hc⟩
    have kk : ∀ b o, hp.get? b = some o → ((hp.push (PySem.W.kdv_tup [u])).push (PySem.HandSPX.excO C hp.objs.size)).get? b = some o := fun b o e => Heap.get?_push_of_some _ (Heap.get?_push_of_some _ e)
    have hget : ((hp.push (PySem.W.kdv_tup [u])).push (PySem.HandSPX.excO C hp.objs.size)).get? (hp.objs.size + 1) = some (PySem.HandSPX.excO C hp.objs.size) := by heap_get
    have hsz2 : ((hp.push (PySem.W.kdv_tup [u])).push (PySem.HandSPX.excO C hp.objs.size)).objs.size = hp.objs.size + 2 := by rw [Heap.size_push, Heap.size_push]
    refine wpAny_call (PySem.HandSPX.call_own PySem.F.excBase_Exception hT hC (PySem.W.looks_findIn I1.kIn hf) (fun self => PySem.W.exc_bind hoI hcI self) (by rw [sizeLine_eq]; exact (by decide : (1 : Nat) ≤ 16777216))
      (init_run (mg := X.mg) (fun b o e => kk b o (I1.kIn b o e)) T (hr.make C [u] []).depth (I1.nolimit.keeps kk) ((I1.mod.glob.keeps I1.bk).keeps kk) hms (let ⟨mb, b1, b2⟩ := I1.mod.blt; ⟨mb, (b1.keeps I1.bk).keeps kk, b2⟩) hget (fun z => ?_) hf fun h' t' t1 dx k' ds dn hx hn => ?_))
    · obtain ⟨o, ho⟩ := Option.isSome_iff_exists.mp z
      have y := Heap.lt_size (I1.kIn _ _ ho)
      exact absurd y (by show ¬ hp.objs.size + 1 < hp.objs.size; omega)
    · refine ⟨rfl, ?_⟩
      have ds' : hp.objs.size ≤ dx := by rw [hsz2] at ds; omega
      obtain ⟨G, g1, g2⟩ := restrict h' fun b => decide (b ≠ hp.objs.size + 1)
      have gk : ∀ b, b ≠ hp.objs.size + 1 → G.get? b = h'.get? b := fun b hb => g1 b (decide_eq_true hb)
      have ge : G.get? (hp.objs.size + 1) = none := g2 _ (by simp)
      have kG : ∀ b o, hp.get? b = some o → G.get? b = some o := fun b o e => by
        have hb : b ≠ hp.objs.size + 1 := Nat.ne_of_lt (Nat.lt_succ_of_lt (Heap.lt_size e))
        rw [gk b hb]
        exact k' b o hb (kk b o e)
      have J : Inv X pins σ (upd H1 dx (.xd [(par, y)])) ⟨G, g, dr, t', os⟩ :=
        I1.laid (t' := t') (a := dx) (o := .xd [(par, y)]) (h' := G) kG ds' ⟨_, hn.at (fun o e => (gk dx dn).trans e), relO_put (fs := []) ru fun g => True.intro⟩
      have na : (upd H1 dx (.xd [(par, y)])) (hp.objs.size + 1) = none := by
        rw [upd_ne (Ne.symm dn)]
        exact I1.hok.fresh (Nat.le_succ _)
      exact ⟨_, _, _, ⟨G, g, dr, t', os⟩, _, .ref C, some dx, rfl, J, fun b o e => by
        by_cases hb : b = hp.objs.size + 1
        · rw [hb, ge] at e
          cases e
        · rw [← gk b hb]
          exact e, ge, hx, ⟨rfl, rfl, fun vs e => by cases e; rfl⟩, rfl, rfl, na, rfl, I1.bare, raises_own T.ex T.ty, q1 dx (I1.hok.fresh ds')⟩
end

section
variable {X : Cx} {κ : BoxKit} {W : WX} {R0 : Bg} {e : Expr} {we : WE} {pos : Pos}
@[simp] def wRaise (c par : Str) (a : WA) : WS := fun D env => a env (fun ds => kept ds ∧ ∃ d, ds.map (·.1) = [d] ∧ D.ex c [(par, d)] env) (fun c fs => D.ex c fs env)
theorem ss_raise {x par : Str} {C : Addr} {p cpos : Pos} {wa : WA} (T : SupC X.prog X.K C par) (hc : X.calm = true) (hr : Room 1 X.A) (tk : L2N.Takes X W) (hms : X.mg "super" = none) (hg : Gl X x) (hm : X.mg x = some (.ref C)) (he : SA X κ W [e] wa)
    (hdb : (x == ("__debug__" : Str)) = false := by decide) (hs : starEach [e] X.env = (false, eval e X.env) :: starEach [] X.env := by rfl) (hpl : (backTo cpos (starEach [] X.env)).any (·.1) = false := by rfl) :
    SS X κ W R0 (.Raise (some (.Call (.Name x p) [e] [] cpos)) none pos) (wRaise x par wa) := by
  refine ps_of (L2N.ps_raise hc tk (pmk_sup T hr hms hg hm he hdb hs hpl)) fun De σ H ⟨R, env, DS, rt, h, so⟩ => ?_
  refine ⟨R, env, _, _, rt.rs, h, fun ds vs R1 H1 x1 ok1 r1 ⟨nb, d, hd, q⟩ => ?_, so.xok rt⟩
  obtain ⟨R2, x2, ok2, r2, _⟩ := freeze ok1 x1 r1 nb
  rw [hd] at r2
  obtain ⟨y, ys, rfl, r3, r4⟩ := r2.cases
  rw [RepL.nil_iff.mp r4]
  refine ⟨y, rfl, fun dx n => ?_⟩
  obtain ⟨x3, ok3⟩ := ext_new ok2 (.xd [(par, y)]) n
  have rt3 := (rt.go x2 ok2).go x3 ok3
  refine so.ex _ env σ _ x [(par, d)] _ _ rt3 ((x2.trans x3).sta rt.rs.ok) ⟨C, hm, rfl, .inr ⟨dx, _, rfl, upd_same, .inr rfl, rfl, ?_⟩⟩ q
  exact .cons (r3.ext ok2 x3) .nil
/-! ### try: body, except C as e: suite -/
@[simp] def wTry (tab : List (Str × Bool)) (i : Nat) (b : WS) (s : Addr → Option Addr → WS) : WS := fun D env => b { D with ex := fun c fs env' => ∃ k, tab.lookup c = some k ∧
  if k = true then (∀ (a : Addr) (dd : Option Addr), s a dd { D with nx := fun e => D.nx (e.set i .un), rt := fun d k e => D.rt d k (e.set i .un), bk := fun e => D.bk (e.set i .un), ct := fun e => D.ct (e.set i .un), ex := fun _ _ _ => False } (env'.set i (.exc a dd fs))) else D.ex c fs env' } env
theorem RS.setX {K : PySem.W.Frag} {R : Rg} {env : Sls} {σ : L2.St} {H : Hp} (r : RS K κ R env σ H) (i : Nat) (a : Addr) {dd : Option Addr} {fs : List (Str × D)} (h : XAt K R H fs dd) : RS K κ R (env.set i (.exc a dd fs)) (σ.set i (some (.ref a))) H := by
  refine ⟨r.ok, by rw [List.length_set, List.length_set]; exact r.len, fun j d' e => ?_, fun j d' e => ?_, fun j l d' e' b h1 h2 h3 h4 => ?_, fun j b dd' fs' e => ?_⟩
  · rcases set_get e with ⟨_, q⟩ | ⟨n, q⟩
    · cases q
    · obtain ⟨u, e1, e2⟩ := r.sl j d' q
      exact ⟨u, by rw [List.getElem?_set_ne (Ne.symm n)]; exact e1, e2⟩
  · rcases set_get e with ⟨_, q⟩ | ⟨n, q⟩
    · cases q
    · obtain ⟨u, e1, e2⟩ := r.ow j d' q
      exact ⟨u, by rw [List.getElem?_set_ne (Ne.symm n)]; exact e1, e2⟩
  · rcases set_get h1 with ⟨_, q⟩ | ⟨n1, q1⟩
    · cases q
    · rcases set_get h2 with ⟨_, q⟩ | ⟨n2, q2⟩
      · cases q
      · rw [List.getElem?_set_ne (Ne.symm n1)] at h3
        rw [List.getElem?_set_ne (Ne.symm n2)] at h4
        exact r.ne j l d' e' b q1 q2 h3 h4
  · rcases set_get e with ⟨rfl, q⟩ | ⟨n, q⟩
    · cases q
      have hl : j < σ.length := by
        rw [← r.len]
        have := (List.getElem?_eq_some_iff.mp e).1
        simpa using this
      exact ⟨List.getElem?_set_self hl, h⟩
    · exact ⟨by rw [List.getElem?_set_ne (Ne.symm n)]; exact (r.xs j b dd' fs' q).1, (r.xs j b dd' fs' q).2⟩
theorem RT.setX {R : Rg} {env : Sls} {σ : L2.St} {H : Hp} (r : RT X κ R0 R env σ H) (i : Nat) (a : Addr) {dd : Option Addr} {fs : List (Str × D)} (h : XAt X.K R H fs dd) : RT X κ R0 R (env.set i (.exc a dd fs)) (σ.set i (some (.ref a))) H := by
  refine ⟨r.rs.setX i a h, r.ext, fun j d' b e e' => ?_⟩
  rcases set_get e with ⟨_, q⟩ | ⟨n, q⟩
  · cases q
  · rw [List.getElem?_set_ne (Ne.symm n)] at e'
    exact r.nw j d' b q e'
theorem RT.setU {R : Rg} {env : Sls} {σ : L2.St} {H : Hp} (r : RT X κ R0 R env σ H) (i : Nat) : RT X κ R0 R (env.set i .un) (σ.set i none) H := by
  refine ⟨r.rs.setU i, r.ext, fun j d' b e e' => ?_⟩
  rcases set_get e with ⟨_, q⟩ | ⟨n, q⟩
  · cases q
  · rw [List.getElem?_set_ne (Ne.symm n)] at e'
    exact r.nw j d' b q e'
/-- the classes that a clause takes -/
def InTab (X : Cx) (tab : List (Str × Bool)) (cls : Value) : Prop := ∃ (c : Str) (C : Addr), tab.lookup c = some true ∧ X.mg c = some (.ref C) ∧ cls = .ref C
/-- tab: which classes does the clause of class C0 take -/
def TabOk (X : Cx) (tab : List (Str × Bool)) (C0 : Value) : Prop := ∀ (c : Str) (k : Bool) (C : Addr), tab.lookup c = some k → X.mg c = some (.ref C) → PySem.W.exmOne X.K (.ref C) C0 = some k
theorem hot_of {a : Addr} {oe : Obj} {cls : Value} {dd : Option Addr} {pn : List (Addr × Obj)} (hz : L2N.Zn cls dd oe) (hf : ∃ vs, oe.data = .fields vs) : L2H.HotC (X.suite a ((a, oe) :: pn)) := by
  obtain ⟨vs, hd⟩ := hf
  exact ⟨(a, oe), ⟨rfl, vs, hd, hz.2.2 vs hd⟩, List.mem_cons_self ..⟩
theorem ss_try {x n : Str} {i : Nat} {C0 : Value} {tab : List (Str × Bool)} {body suite : List Stmt} {b₀ : Stmt} {np pos' : Pos} {wb : WS} {ws : Addr → Option Addr → WS} (hs : X.stack = X.env :: X.outer) (hf : X.env.frame = some X.env.locals) (hN : X.N.Nodup) (ht : TabOk X tab C0) (hc : Names X x C0) (tk : L2N.Takes X W)
    (hb : ∀ (W : WX) (pn : List (Addr × Obj)) (xe : Value → Shared → Prop), L2N.Takes (X.tr pn xe) W → PassesOwn (model X.prog X.w) X.A X.env xe → SSs (X.tr pn xe) κ W R0 body wb)
    (hsu : ∀ (a : Addr) (oe : Obj) (cls : Value) (dd : Option Addr) (pn : List (Addr × Obj)), L2N.Zn cls dd oe → (∃ vs, oe.data = .fields vs) → InTab X tab cls → L2H.HotC (X.suite a ((a, oe) :: pn)) → SSs (X.suite a ((a, oe) :: pn)) κ W0 R0 (b₀ :: suite) (ws a dd))
    (hi : X.N[i]? = some n := by rfl) (hln : X.env.kindOf n = some .local := by rfl) :
    SS X κ W R0 (.Try body [.ExceptHandler (some (.Name x np)) (some n) (b₀ :: suite) pos'] [] [] pos) (wTry tab i wb ws) := by
  refine ps_of (L2N.ps_try_as (tb := fun W => tS X κ W R0 wb) (ts := fun a cls dd D σ H => InTab X tab cls ∧ tS X κ W0 R0 (ws a dd) D σ H) hs hf hN hi hln hc tk (fun W pn xe t p => hb W pn xe t p) (fun a oe cls dd pn hz hf => ⟨fun pins s σ H De I hw => (hsu a oe cls dd pn hz hf hw.1 (hot_of hz hf)).run pins s σ H De I hw.2⟩)) fun De σ H ⟨R, env, DS, rt, h, so⟩ => ?_
  refine ⟨R, env, _, rt, h, so.nx, so.bk, so.ct, so.rt, fun R1 env1 σ1 H1 c fs cls dd rt1 y1 rx ⟨k, hk, q⟩ => ?_⟩
  obtain ⟨C, hm, rfl, xa⟩ := rx
  refine ⟨k, ht c k C hk hm, fun e a na => ?_, fun e => ?_⟩
  · subst e
    refine ⟨⟨c, C, hk, hm, rfl⟩, R1, _, _, RT.setX (X := X) rt1 i a xa, (if_pos rfl ▸ q) a dd, ?_⟩
    refine ⟨fun R2 env2 σ2 H2 rt2 y2 q2 => so.nx R2 _ _ H2 (RT.setU (X := X) rt2 i) (y1.trans y2) q2, fun R2 env2 σ2 H2 rt2 y2 q2 => so.bk R2 _ _ H2 (RT.setU (X := X) rt2 i) (y1.trans y2) q2, fun R2 env2 σ2 H2 rt2 y2 q2 => so.ct R2 _ _ H2 (RT.setU (X := X) rt2 i) (y1.trans y2) q2,
      fun R2 env2 σ2 H2 d k2 v o2 y2 r2 q2 => so.rt R2 (env2.set i .un) _ H2 d k2 v (RT.setU (X := X) o2 i) (y1.trans y2) r2 q2, fun R2 env2 σ2 H2 c2 fs2 cls2 dd2 _ _ _ q2 => q2.elim⟩
  · subst e
    exact so.ex R1 env1 σ1 H1 c fs _ dd rt1 y1 ⟨C, hm, rfl, xa⟩ (by simpa using q)
/-- e.f in the suite -/
@[simp] def wXf (i : Nat) (a : Addr) (dd : Option Addr) (f : Str) : WE := fun env Q _ => ∃ fs d, env[i]? = some (.exc a dd fs) ∧ fs.lookup f = some d ∧ Q d .frz
theorem RepL.lookF {K : PySem.W.Frag} {R : Rg} {H : Hp} {f : Str} {d : D} : ∀ {fs : List (Str × D)} {vs : List (Str × V)}, RepF K R H vs fs → fs.lookup f = some d → ∃ v, vs.lookup f = some v ∧ Rep K R H v d
  | [], vs, _, e => by cases e
  | (g, d0) :: fs, [], h, _ => by cases h.1
  | (g, d0) :: fs, (g', v0) :: vs, h, e => by
    obtain ⟨h1, h2⟩ := h
    have h1' : g' = g ∧ vs.map (·.1) = fs.map (·.1) := by simpa using h1
    obtain ⟨rfl, h3⟩ := h1'
    obtain ⟨v, r, e2, r1, r2⟩ := h2.cases
    have e2' : v0 = v ∧ vs.map (·.2) = r := by simpa using e2
    obtain ⟨rfl, rfl⟩ := e2'
    rw [lookup_put]
    by_cases hf : f = g'
    · rw [if_pos hf]
      subst hf
      have e' : d0 = d := by simpa [List.lookup] using e
      subst e'
      exact ⟨v0, rfl, r1⟩
    · rw [if_neg hf]
      have nf : (f == g') = false := by simpa using hf
      exact RepL.lookF ⟨h3, r2⟩ (by simpa [List.lookup, nf] using e)
theorem se_xf (i : Nat) {a : Addr} {oe : Obj} {cls : Value} {dd : Option Addr} {pn : List (Addr × Obj)} {n f : Str} {p : Pos} {tab : List (Str × Bool)} (hz : L2N.Zn cls dd oe) (hf : ∃ vs, oe.data = .fields vs) (hi : InTab X tab cls)
    (hX : ∀ (c : Str) (C : Addr), tab.lookup c = some true → X.mg c = some (.ref C) → XfC X.K C ∧ PySem.W.findIn X.K (.ref C) f = some none)
    (hN : X.N[i]? = some n := by rfl) (hv : Vis X.env.scope n := by first | exact Or.inl rfl | exact Or.inr (Or.inl rfl) | exact Or.inr (Or.inr rfl)) (hd : (n == ("__debug__" : Str)) = false := by decide)
    (hcd : (n == ("__classdict__" : Str)) = false := by decide) (hb : attributeBase (.Name n p) f X.env (eval (.Name n p) X.env) = eval (.Name n p) X.env := by rfl) :
    SE (X.suite a ((a, oe) :: pn)) κ W0 (.Attribute (.Name n p) f pos) (wXf i a dd f) := by
  obtain ⟨c, C, hk, hm, rfl⟩ := hi
  obtain ⟨T, hno⟩ := hX c C hk hm
  refine pe_of (pe_xf (te := tVar i) T hno ⟨hz.1, hz.2.1⟩ hf (pe_var hN hv hd hcd) hb) fun σ H Q ⟨R, env, Qd, Ed, rs, ⟨fs, d, e1, e2, q⟩, hq, _⟩ => ?_
  obtain ⟨s1, xa⟩ := rs.xs i a dd fs e1
  refine ⟨_, s1, rfl, rfl, ?_⟩
  rcases xa with ⟨rfl, _⟩ | ⟨dx, vs, e3, e4, _, rf⟩
  · cases e2
  · obtain ⟨v, e5, r⟩ := RepL.lookF rf e2
    exact ⟨dx, vs, v, e3, e4, e5, hq.now rs.ok r q⟩
end
end Kn
namespace Kn
open PySem PySem.Spec L2

/-! ### a def's body keeps its promise -/
@[simp] def startS (n : Nat) (ds : List D) : Sls := ds.map Slot.val ++ List.replicate (n - ds.length) .un
@[simp] def endD (Q : QD) (E : XD) : EndD := { nx := fun _ => Q .non .frz, rt := fun d k _ => Q d k, ex := fun c fs _ => E c fs }
@[simp] def specOf (n : Nat) (w : WS) : PSp := fun ds Q E => w (endD Q E) (startS n ds)
theorem startS_get {n i : Nat} {ds : List D} {s : Slot} (h : (startS n ds)[i]? = some s) : (∃ d, ds[i]? = some d ∧ s = .val d) ∨ (ds.length ≤ i ∧ s = .un) := by
  unfold startS at h
  by_cases hi : i < ds.length
  · rw [List.getElem?_append_left (by simpa using hi), List.getElem?_map, List.getElem?_eq_getElem hi] at h
    exact .inl ⟨ds[i], List.getElem?_eq_getElem hi, (Option.some.inj h).symm⟩
  · rw [List.getElem?_append_right (by simpa using Nat.le_of_not_lt hi), List.getElem?_replicate] at h
    split at h
    · exact .inr ⟨Nat.le_of_not_lt hi, (Option.some.inj h).symm⟩
    · cases h
theorem start_get {N : List Str} {vs : List V} {i : Nat} {v : V} (h : vs[i]? = some v) : (L2.start N vs)[i]? = some (some v) := by
  have hi : i < vs.length := (List.getElem?_eq_some_iff.mp h).1
  unfold L2.start
  rw [List.getElem?_append_left (by simpa using hi), List.getElem?_map, h]
  rfl
theorem RS.begin {K : PySem.W.Frag} {κ : BoxKit} {R : Rg} {H : Hp} {N : List Str} {vs : List V} {ds : List D} (ok : Rok κ R H) (r : RepL K R H vs ds) (hl : vs.length ≤ N.length) : RS K κ R (startS N.length ds) (L2.start N vs) H := by
  refine ⟨ok, ?_, fun i d e => ?_, fun i d e => ?_, fun i j d d' a e _ _ _ => ?_, fun i a dd fs e => ?_⟩
  · unfold startS L2.start
    simp [r.len]
  · rcases startS_get e with ⟨d', e1, e2⟩ | ⟨_, e2⟩
    · cases e2
      obtain ⟨v, e3, e4⟩ := r.get e1
      exact ⟨v, start_get e3, e4⟩
    · cases e2
  · rcases startS_get e with ⟨d', _, e2⟩ | ⟨_, e2⟩ <;> cases e2
  · rcases startS_get e with ⟨d', _, e2⟩ | ⟨_, e2⟩ <;> cases e2
  · rcases startS_get e with ⟨d', _, e2⟩ | ⟨_, e2⟩ <;> cases e2
abbrev WofE (E : XK) : WX := fun cls dd _ H => E cls dd H
section
variable {P : Program} {wd : World} {K : PySem.W.Frag} {mg : Str → Option Value} {base : Heap} {κ : BoxKit} {x qual : Str} {params : Arguments} {body : List Stmt} {scope : Scope} {f : Addr} {fd : FuncData} {N ps : List Str} {k : Nat} {w : WS}
abbrev cxD (P : Program) (wd : World) (K : PySem.W.Frag) (mg : Str → Option Value) (base : Heap) (N : List Str) (qual : Str) (scope : Scope) (f : Addr) (cdv : Value) (A : Around) (outer : List Env) (s : Shared) (H : Hp) (E : XK) : Cx := cxOf (L2N.CX P wd) P wd K mg base N qual scope f cdv A outer s H E
abbrev cxDH (P : Program) (wd : World) (K : PySem.W.Frag) (mg : Str → Option Value) (base : Heap) (N : List Str) (qual : Str) (scope : Scope) (f : Addr) (cdv : Value) (A : Around) (outer : List Env) (s : Shared) (H : Hp) (E : XK) (p : Addr × Obj) : Cx := L2H.cxH (L2N.CX P wd) P wd K mg base N qual scope f cdv A outer s H E p
/-- the body, entered -/
theorem tS_begin {X : Cx} (hN : X.N = N) (hK : X.K = K) (hm : X.mg = mg) {H : Hp} (hH : X.H_0 = H) {vs : List V} {Q : VK} {E : XK} (S : FnScope N ps scope) (h : spOf K mg κ ps.length (specOf N.length w) vs H Q E) : ∃ R0, tS X κ (WofE E) R0 w { nx := fun _ H' => Q .non H', rt := Q } (L2.start N vs) H := by
  subst hK hm hH
  obtain ⟨hl, R, ds, Qd, Ed, ok, r, hw, hq, hx⟩ := h
  have hpl : ps.length ≤ N.length := by
    have := congrArg List.length S.pre
    rw [List.length_take] at this
    omega
  refine ⟨⟨R, X.H_0⟩, R, _, endD Qd Ed, ⟨RS.begin ok r (by omega), .refl _ _, fun i d a e _ => ?_⟩, hw, ?_⟩
  · rcases startS_get e with ⟨d', _, e2⟩ | ⟨_, e2⟩ <;> cases e2
  · exact ⟨fun R' env σ H' rt _ q => hq .non .frz .non R' H' rt.ext rt.rs.ok (show RepR X.K R' X.H_0 H' V.non D.non .frz from rep_non (K := X.K) (R := R') (H := H')) q, fun R' env σ H' _ _ q => q.elim, fun R' env σ H' _ _ q => q.elim,
      fun R' env σ H' d k v rt _ r' q => hq d k v R' H' rt.ext rt.rs.ok r' q, fun R' env σ H' c fs cls dd rt _ rx q => hx c fs cls dd R' H' rt.ext rt.rs.ok rx q⟩
theorem fn_body (F : FunD K x qual params body scope [] [] f fd) (S : FnScope N ps scope)
    (hb : ∀ (cdv : Value) (A : Around) (outer : List Env) (s : Shared) (H : Hp) (E : XK) (R0 : Bg), Room k (cxD P wd K mg base N qual scope f cdv A outer s H E).A → L2N.Takes (cxD P wd K mg base N qual scope f cdv A outer s H E) (WofE E) →
      PassesOwn (model P wd) (cxD P wd K mg base N qual scope f cdv A outer s H E).A (cxD P wd K mg base N qual scope f cdv A outer s H E).env (cxD P wd K mg base N qual scope f cdv A outer s H E).xe → SSs (cxD P wd K mg base N qual scope f cdv A outer s H E) κ (WofE E) R0 body w) :
    FnOk P wd K mg base (L2N.CX P wd) (k + 1) f fd ps (spOf K mg κ ps.length (specOf N.length w)) := by
  refine F.ok S (fun vs H Q E h => h.1) fun cdv A outer s H vs Q E hr h => ?_
  obtain ⟨R0, ht⟩ := tS_begin (X := cxD P wd K mg base N qual scope f cdv A outer s H E) rfl rfl rfl rfl S h
  exact ⟨_, hb cdv A outer s H E R0 hr (L2N.takes_of rfl rfl rfl rfl) (passes_of rfl), ht⟩
theorem fn_bodyH (F : FunD K x qual params body scope [] [] f fd) (S : FnScope N ps scope)
    (hb : ∀ (cdv : Value) (A : Around) (outer : List Env) (s : Shared) (H : Hp) (E : XK) (R0 : Bg) (p : Addr × Obj), L2H.RoomH k (cxDH P wd K mg base N qual scope f cdv A outer s H E p).A → L2H.HotC (cxDH P wd K mg base N qual scope f cdv A outer s H E p) → L2N.Takes (cxDH P wd K mg base N qual scope f cdv A outer s H E p) (WofE E) →
      SSs (cxDH P wd K mg base N qual scope f cdv A outer s H E p) κ (WofE E) R0 body w) :
    L2H.FnH P wd K mg base (L2N.CX P wd) (k + 1) f fd ps (spOf K mg κ ps.length (specOf N.length w)) := by
  obtain ⟨oc, od, dV, kV, doc, pm, an, cdv, ct, osl, rfl, lk, hcd, _, _⟩ := F.ex
  refine L2H.fn_ofH lk hcd S (fun vs H Q E h => h.1) fun A outer s H vs Q E p hp hr h => ?_
  obtain ⟨R0, ht⟩ := tS_begin (X := cxDH P wd K mg base N qual scope f cdv A outer s H E p) rfl rfl rfl rfl S h
  exact ⟨_, hb cdv A outer s H E R0 p hr ⟨p, hp, List.mem_cons_self ..⟩ (L2N.takes_of rfl rfl rfl rfl), ht⟩
/-- by name -/
theorem FnAt.of {n : Nat} {q : PSp} (F : FunD K x qual params body scope [] [] f fd) (hm : mg x = some (.ref f)) (G : FnOk P wd K mg base (L2N.CX P wd) k f fd ps (spOf K mg κ n q))
    (h : ∀ (kV doc pm : Value) (an : Option Addr) (cdv ct : Value) (us : List Value), us.length = ps.length → bindArgs (PySem.W.fnOf x qual params body scope .none kV doc pm an cdv ct) ⟨us, []⟩ = pure (ps.zip us)) : FnAt P wd K mg base κ k x n q :=
  ⟨f, fd, ps, hm, F.kp, F.bindsN h, G⟩
theorem FnAt.mono {n j : Nat} {q : PSp} (F : FnAt P wd K mg base κ j x n q) (h : j ≤ k) : FnAt P wd K mg base κ k x n q := by
  obtain ⟨a, fd, ps, hm, hk, hb, G⟩ := F.ex
  exact ⟨a, fd, ps, hm, hk, hb, G.mono h⟩
structure FnAtH (P : Program) (wd : World) (K : PySem.W.Frag) (mg : Str → Option Value) (base : Heap) (κ : BoxKit) (k : Nat) (x : Str) (n : Nat) (f : PSp) : Prop where
  ex : ∃ (a : Addr) (fd : FuncData) (ps : List Str), mg x = some (.ref a) ∧ PySem.W.keepIn K (.ref a) = true ∧ Binds K fd ps [] ∧ L2H.FnH P wd K mg base (L2N.CX P wd) k a fd ps (spOf K mg κ n f)
theorem FnAtH.of {n : Nat} {q : PSp} (F : FunD K x qual params body scope [] [] f fd) (hm : mg x = some (.ref f)) (G : L2H.FnH P wd K mg base (L2N.CX P wd) k f fd ps (spOf K mg κ n q))
    (h : ∀ (kV doc pm : Value) (an : Option Addr) (cdv ct : Value) (us : List Value), us.length = ps.length → bindArgs (PySem.W.fnOf x qual params body scope .none kV doc pm an cdv ct) ⟨us, []⟩ = pure (ps.zip us)) : FnAtH P wd K mg base κ k x n q :=
  ⟨f, fd, ps, hm, F.kp, F.bindsN h, G⟩
end
section
variable {X : Cx} {κ : BoxKit} {W : WX} {e : Expr} {es : List Expr} {p pos : Pos} {x : Str} {w : WA}
theorem se_callH {k n : Nat} {f : PSp} (F : FnAtH X.prog X.w X.K X.mg X.base κ k x n f) (hr : L2H.RoomH k X.A) (hc : L2H.HotC X) (tk : L2N.Takes X W) (hg : Gl X x) (ha : SA X κ W (e :: es) w) (hdb : (x == ("__debug__" : Str)) = false := by decide)
    (he : starEach (e :: es) X.env = (false, eval e X.env) :: starEach es X.env := by rfl) (hpl : (backTo pos (starEach es X.env)).any (·.1) = false := by rfl) : SE X κ W (.Call (.Name x p) (e :: es) [] pos) (wCall n f w) := by
  obtain ⟨a, fd, ps, hm, hk, hb, G⟩ := F.ex
  refine pe_of (L2H.pe_callH G hr hc hg hm hk hb (fun σ => L2N.passAt tk σ) ha hdb he hpl) fun σ H Q ⟨R, env, Qd, Ed, rs, h, hq, hx⟩ => ?_
  refine ⟨R, env, _, Ed, rs, h, fun ds vs R1 H1 x1 ok1 r1 ⟨nb, hl, q⟩ => ?_, hx⟩
  obtain ⟨R2, x2, ok2, r2, _⟩ := freeze ok1 x1 r1 nb
  refine ⟨by rw [r2.lenD]; exact hl, R2, ds.map (·.1), Qd, Ed, ok2, by simpa using r2, q, fun d k v R' H' x' ok' r' q' => ?_, fun c fs cls dd R' H' x' ok' r' q' => ?_⟩
  · exact hq d k v R' H' (x2.trans x') ok' ((r'.k env σ).back x2) q'
  · exact hx c fs cls dd R' H' (x2.trans x') ok' r' q'
theorem takes_no {X : Cx} : L2N.Takes X W0 := fun _ _ ⟨_, _, _, _, _, _, _, _, _, _, _, _, _, _, _, _, w⟩ => w.elim
end
end Kn
namespace Kn
open PySem PySem.Spec L2

/-! ### values that compare -/
structure Sh (n : Nat) (d : D) : Prop where
  pl : plain d = true
  cl : (pd d).canLay0 = true
  dp : (pd d).depth ≤ n
theorem Sh.ok {n : Nat} {d : D} (h : Sh n d) (hn : n ≤ 64 := by decide) : SeqAt.shaped (pd d) = true := by
  unfold SeqAt.shaped
  rw [h.cl, Bool.true_and]
  exact decide_eq_true (Nat.le_trans h.dp hn)
theorem Sh.mono {n m : Nat} {d : D} (h : Sh n d) (hm : n ≤ m) : Sh m d := ⟨h.pl, h.cl, Nat.le_trans h.dp hm⟩
theorem Sh.int {n : Nat} {i : Int} : Sh n (.int i) := ⟨rfl, by simp [pd, PyData.canLay0], by simp [pd, PyData.depth]⟩
theorem Sh.bl {n : Nat} {b : Bool} : Sh n (.bl b) := ⟨rfl, by simp [pd, PyData.canLay0], by simp [pd, PyData.depth]⟩
theorem Sh.non {n : Nat} : Sh n .non := ⟨rfl, by simp [pd, PyData.canLay0], by simp [pd, PyData.depth]⟩
theorem Sh.all {n : Nat} : ∀ {ds : List D}, (∀ d ∈ ds, Sh n d) → plainL ds = true ∧ PyData.canLayAll0 (pdL ds) = true ∧ PyData.depthAll (pdL ds) ≤ n
  | [], _ => ⟨rfl, by simp [pdL, PyData.canLayAll0], by simp [pdL, PyData.depthAll]⟩
  | d :: ds, h => by
    obtain ⟨h1, h2, h3⟩ := Sh.all (ds := ds) fun e he => h e (List.mem_cons_of_mem _ he)
    have hd := h d (List.mem_cons_self ..)
    refine ⟨?_, ?_, ?_⟩
    · unfold plainL
      rw [hd.pl, h1, Bool.true_and]
    · unfold pdL PyData.canLayAll0
      rw [hd.cl, h2, Bool.true_and]
    · unfold pdL PyData.depthAll
      exact Nat.max_le.mpr ⟨hd.dp, h3⟩
theorem Sh.tup {n : Nat} {ds : List D} (h : ∀ d ∈ ds, Sh n d) : Sh (n + 1) (.tup ds) := by
  obtain ⟨h1, h2, h3⟩ := Sh.all h
  exact ⟨by unfold plain; exact h1, by simp only [pd, PyData.canLay0]; exact h2, by simp only [pd, PyData.depth]; omega⟩
theorem Sh.lst {n : Nat} {ds : List D} (h : ∀ d ∈ ds, Sh n d) : Sh (n + 1) (.lst ds) := by
  obtain ⟨h1, h2, h3⟩ := Sh.all h
  exact ⟨by unfold plain; exact h1, by simp only [pd, PyData.canLay0]; exact h2, by simp only [pd, PyData.depth]; omega⟩
def eqD (x y : D) : Bool := PyData.eqv (pd x) (pd y)
theorem fEqD_of {neg : Bool} {x y : D} {Q : QD} {n m : Nat} (hx : Sh n x) (hy : Sh m y) (q : Q (.bl (neg ^^ eqD x y)) .frz) (hn : n ≤ 64 := by decide) (hm : m ≤ 64 := by decide) : fEqD neg x y Q := ⟨hx.pl, hy.pl, hx.ok hn, hy.ok hm, q⟩

/-! ### the drawing box: [the long cells, the state] -/
structure BoxI (R : Rg) (H : Hp) : Prop where
  dm : ∀ a, R.B a → ∃ o, H a = some o
  sh : ∀ r, R.rt r → ∃ (b : Addr) (xs : List Int) (n : Int), R.B r ∧ R.B b ∧ ¬ R.rt b ∧ H r = some (.lst [.ref b, .int n]) ∧ H b = some (.lst (xs.map V.int)) ∧ xs.length ≤ 1000
  sp : ∀ (r r' b : Addr) (n n' : Int), R.rt r → R.rt r' → H r = some (.lst [.ref b, .int n]) → H r' = some (.lst [.ref b, .int n']) → r = r'
def boxA : BoxKit where
  BI := BoxI
  frame := fun {R R' H H'} h hB hr e => by
    refine ⟨fun a ha => ?_, fun r hr' => ?_, fun r r' b n n' h1 h2 e1 e2 => ?_⟩
    · rw [e a ((hB a).mpr ha)]
      exact h.dm a ((hB a).mpr ha)
    · obtain ⟨b, xs, n, b1, b2, b3, b4, b5, b6⟩ := h.sh r ((hr r).mpr hr')
      exact ⟨b, xs, n, (hB r).mp b1, (hB b).mp b2, fun z => b3 ((hr b).mpr z), by rw [e r b1]; exact b4, by rw [e b b2]; exact b5, b6⟩
    · have q : ∀ {x}, R'.rt x → H' x = H x := fun {x} hx => by
        obtain ⟨_, _, _, b1, _⟩ := h.sh x ((hr x).mpr hx)
        exact e x b1
      rw [q h1] at e1
      rw [q h2] at e2
      exact h.sp r r' b n n' ((hr r).mpr h1) ((hr r').mpr h2) e1 e2
  dom := fun {R H a} h hb => h.dm a hb
theorem Ext.upB {R : Rg} {H : Hp} {a : Addr} {o : HO} (hb : R.B a) : Ext R H R (upd H a o) :=
  ⟨fun c u e nb => by rw [upd_ne fun z => nb (by rw [z]; exact hb)]; exact e, fun c u e => by
    by_cases z : c = a
    · exact ⟨o, by rw [z]; exact upd_same⟩
    · exact ⟨u, by rw [upd_ne z]; exact e⟩, fun _ z => z, fun _ z => .inl z, fun _ z => .inl z, fun _ z => z⟩
theorem upd_B {H : Hp} {R : Rg} {a : Addr} {o : HO} (c : Addr) (h : ∃ u, H c = some u) : ∃ u, upd H a o c = some u := by
  obtain ⟨u, e⟩ := h
  by_cases z : c = a
  · exact ⟨o, by rw [z]; exact upd_same⟩
  · exact ⟨u, by rw [upd_ne z]; exact e⟩
/-- the long cells are changed -/
theorem BoxI.putB {R : Rg} {H : Hp} (h : BoxI R H) {r b : Addr} {n : Int} (hr : R.rt r) (e : H r = some (.lst [.ref b, .int n])) {ys : List Int} (hl : ys.length ≤ 1000) : BoxI R (upd H b (.lst (ys.map V.int))) := by
  have nb : ∀ {x}, R.rt x → x ≠ b := fun {x} hx z => by
    obtain ⟨b', _, _, _, _, q, e', _⟩ := h.sh r hr
    rw [e] at e'
    cases e'
    exact q (by rw [← z]; exact hx)
  refine ⟨fun a ha => upd_B (R := R) a (h.dm a ha), fun x hx => ?_, fun x x' b' n1 n2 h1 h2 e1 e2 => ?_⟩
  · obtain ⟨b', xs, m, b1, b2, b3, b4, b5, b6⟩ := h.sh x hx
    by_cases z : b' = b
    · exact ⟨b', ys, m, b1, b2, b3, by rw [upd_ne (nb hx)]; exact b4, by rw [z]; exact upd_same, hl⟩
    · exact ⟨b', xs, m, b1, b2, b3, by rw [upd_ne (nb hx)]; exact b4, by rw [upd_ne z]; exact b5, b6⟩
  · rw [upd_ne (nb h1)] at e1
    rw [upd_ne (nb h2)] at e2
    exact h.sp x x' b' n1 n2 h1 h2 e1 e2
/-- the state is changed -/
theorem BoxI.putR {R : Rg} {H : Hp} (h : BoxI R H) {r b : Addr} {n : Int} (hr : R.rt r) (e : H r = some (.lst [.ref b, .int n])) (m : Int) : BoxI R (upd H r (.lst [.ref b, .int m])) := by
  have same : ∀ {x c : Addr} {k : Int}, R.rt x → upd H r (.lst [.ref b, .int m]) x = some (.lst [.ref c, .int k]) → ∃ k', H x = some (.lst [.ref c, .int k']) := fun {x c k} hx q => by
    by_cases z : x = r
    · rw [z, upd_same] at q
      cases q
      exact ⟨n, by rw [z]; exact e⟩
    · rw [upd_ne z] at q
      exact ⟨k, q⟩
  refine ⟨fun a ha => upd_B (R := R) a (h.dm a ha), fun x hx => ?_, fun x x' b' n1 n2 h1 h2 e1 e2 => ?_⟩
  · obtain ⟨b', xs, k, b1, b2, b3, b4, b5, b6⟩ := h.sh x hx
    have z2 : b' ≠ r := fun z => b3 (by rw [z]; exact hr)
    by_cases z : x = r
    · subst z
      rw [e] at b4
      cases b4
      exact ⟨b, xs, m, b1, b2, b3, upd_same, by rw [upd_ne z2]; exact b5, b6⟩
    · exact ⟨b', xs, k, b1, b2, b3, by rw [upd_ne z]; exact b4, by rw [upd_ne z2]; exact b5, b6⟩
  · obtain ⟨k1, q1⟩ := same h1 e1
    obtain ⟨k2, q2⟩ := same h2 e2
    exact h.sp x x' b' k1 k2 h1 h2 q1 q2
section
variable {X : Cx} {W : WX} {R0 : Bg} {e : Expr} {wa : WE} {pos : Pos}
theorem atI_1 {a b : V} : atI [a, b] 1 = some b := rfl
theorem atI_0 {a b : V} : atI [a, b] 0 = some a := rfl
/-- box[1] -/
@[simp] def wBx1 (i : Nat) : WE := fun env Q _ => env[i]? = some (.val .box) ∧ ∀ n, Q (.int n) .frz
theorem RS.box {K : PySem.W.Frag} {κ : BoxKit} {R : Rg} {env : Sls} {σ : L2.St} {H : Hp} {i : Nat} (r : RS K κ R env σ H) (h : env[i]? = some (.val .box)) : ∃ a, σ[i]? = some (some (.ref a)) ∧ R.rt a := by
  obtain ⟨v, e1, e2⟩ := r.sl i _ h
  unfold Rep at e2
  obtain ⟨a, rfl, ha⟩ := e2
  exact ⟨a, e1, ha⟩
theorem se_bx1 (i : Nat) (h : PE X e (tOp (rIxL X.K) (tVar i) (tC (.int 1)))) : SE X boxA W e (wBx1 i) := by
  refine pe_of h fun σ H Q ⟨R, env, Qd, Ed, rs, ⟨hb, hn⟩, hq, hx⟩ => ?_
  obtain ⟨r, e1, hr⟩ := rs.box hb
  obtain ⟨b, xs, n, _, _, _, e2, _, _⟩ := rs.ok.bi.sh r hr
  exact ⟨_, e1, r, _, 1, .int n, rfl, rfl, .inl (.inl e2), rfl, hq.now rs.ok rep_int (hn n)⟩
/-- box[1] = e -/
@[simp] def wBxSet1 (i : Nat) (a : WE) : WS := fun D env => env[i]? = some (.val .box) ∧ a env (fun d _ => (∃ n, d = .int n) ∧ D.nx env) (fun c fs => D.ex c fs env)
theorem RT.rok {κ : BoxKit} {R : Rg} {env : Sls} {σ : L2.St} {H H' : Hp} (r : RT X κ R0 R env σ H) (x : Ext R H R H') (b : κ.BI R H') : RT X κ R0 R env σ H' :=
  r.go x ⟨fun a z => by
    obtain ⟨o, e⟩ := r.rs.ok.zin a z
    exact x.dom a o e, r.rs.ok.zb, b⟩
theorem ss_bxSet1 (i : Nat) {st : Stmt} {te : TE} (he : te = tE X boxA W wa) (h : PS X st (tAsg te (L2.gSub (tVar i) (tC (.int 1)) rSetL))) : SS X boxA W R0 st (wBxSet1 i wa) := by
  subst he
  refine ps_of h fun De σ H ⟨R, env, DS, rt, ⟨hb, hw⟩, so⟩ => ?_
  refine ⟨R, env, _, _, rt.rs, hw, fun d k v R1 H1 x1 ok1 r1 ⟨⟨m, hm⟩, q⟩ => ?_, so.xok rt⟩
  subst hm
  have hv := r1.vw.int
  subst hv
  have rt1 := rt.go x1 ok1
  obtain ⟨r, e1, hr⟩ := rt1.rs.box hb
  obtain ⟨b, xs, n, b1, _, _, e2, _, _⟩ := rt1.rs.ok.bi.sh r hr
  refine ⟨_, e1, r, _, 1, 1, rfl, rfl, e2, rfl, ?_⟩
  have x2 : Ext R1 H1 R1 (upd H1 r (.lst [.ref b, .int m])) := Ext.upB b1
  exact so.nx R1 env σ _ (rt1.rok x2 (rt1.rs.ok.bi.putR hr e2 m)) ((x1.sta rt.rs.ok).trans (x2.sta ok1)) q
end
end Kn
namespace Kn
open PySem PySem.Spec L2

abbrev rInt1 : List V → Hp → VK → Prop := fun xs H Q => (∃ i, xs = [.int i] ∧ Q (.int i) H) ∨ ∃ k, xs = [.bl k] ∧ Q (.int (if k then 1 else 0)) H
abbrev rIns : V → List V → Hp → VK → Prop := fun x vs H Q => ∃ (l : Addr) (xs : List V) (i : Int) (y : V), x = .ref l ∧ vs = [.int i, y] ∧ H l = some (.lst xs) ∧ xs.length < sizeLine ∧ 0 ≤ i ∧ i < 2 ^ 63 ∧
    Q .non (upd H l (.lst (xs.take i.toNat ++ [y] ++ xs.drop i.toNat)))
abbrev rDivW : R2 := rI CDivW fun i j => .int (i / j)
abbrev rMod1 : R2 := rI (fun _ j => 0 < j) fun i j => .int (i % j)
abbrev rGt1 : R2 := rI0 fun i j => .bl (decide (j < i))
section
variable {X : Cx} {W : WX} {R0 : Bg} {e o : Expr} {te to : TE} {t : TA} {es : List Expr} {apos cpos pos : Pos}
theorem bm_popAt (ho : PE X o to) (ha : PA X (e :: es) t)
    (hbase : attributeBase o "pop" X.env (eval o X.env) = eval o X.env := by rfl)
    (hfew : ((backTo cpos (starEach (e :: es) X.env)).all (fun x => !x.1) && (backToKw cpos (keywordEach [] X.env)).all (fun x => x.1.isSome)
      && decide ((e :: es).length + ([] : List Keyword).length + (if ([] : List Keyword).isEmpty then 0 else 1) < 30)) = true := by rfl)
    (hline : (apos.endLine == cpos.line) = true := by rfl) (hs : starEach (e :: es) X.env = (false, eval e X.env) :: starEach es X.env := by rfl) (hplain : (backTo cpos (starEach es X.env)).any (·.1) = false := by rfl) :
    PE X (.Call (.Attribute o "pop" apos) (e :: es) [] cpos) (tBM X.K "list" rPopAt to t) := pe_bm PySem.F.plainAttrs_list PySem.F.slot_list_pop PySem.F.type_list_pop mt_popAt ho ha hbase hfew hline hs hplain
theorem bm_insert (ho : PE X o to) (ha : PA X (e :: es) t)
    (hbase : attributeBase o "insert" X.env (eval o X.env) = eval o X.env := by rfl)
    (hfew : ((backTo cpos (starEach (e :: es) X.env)).all (fun x => !x.1) && (backToKw cpos (keywordEach [] X.env)).all (fun x => x.1.isSome)
      && decide ((e :: es).length + ([] : List Keyword).length + (if ([] : List Keyword).isEmpty then 0 else 1) < 30)) = true := by rfl)
    (hline : (apos.endLine == cpos.line) = true := by rfl) (hs : starEach (e :: es) X.env = (false, eval e X.env) :: starEach es X.env := by rfl) (hplain : (backTo cpos (starEach es X.env)).any (·.1) = false := by rfl) :
    PE X (.Call (.Attribute o "insert" apos) (e :: es) [] cpos) (tBM X.K "list" rIns to t) := pe_bm PySem.F.plainAttrs_list PySem.F.slot_list_insert PySem.F.type_list_insert mt_insert ho ha hbase hfew hline hs hplain
/-- box[0], box[0] != [] -/
abbrev tB0 (K : PySem.W.Frag) (i : Nat) : TE := tOp (rIxL K) (tVar i) (tC (.int 0))
abbrev tNe0 (K : PySem.W.Frag) (i : Nat) : TT := tTest (tOp (rNeD K) (tB0 K i) (tLst tNil))
abbrev tDrawA (K : PySem.W.Frag) (i m j : Nat) : TS :=
  tIfS (tNe0 K i)
    (tSeq (tAsg (tCB rInt1 (tCons (tBM K "list" rPopAt (tB0 K i) (tCons (tC (.int 0)) tNil)) tNil)) (gName j))
      (tSeq (tIfS (tTest (tOp rGt1 (tOp rDivW (tVar j) (tVar m)) (tC (.int 0))))
          (tDrop (tBM K "list" rIns (tB0 K i) (tCons (tC (.int 0)) (tCons (tOp rDivW (tVar j) (tVar m)) tNil)))) tNext)
        (tRet (tOp rMod1 (tCB rInt1 (tCons (tVar j) tNil)) (tVar m)))))
    tNext
theorem dpInts {K : PySem.W.Frag} {H : Hp} : ∀ xs : List Int, DpAll K H (xs.map V.int) (xs.map PyData.int)
  | [] => .nil
  | x :: xs => .cons (.int x) (dpInts xs)
theorem shInts : ∀ xs : List Int, PyData.canLayAll0 (xs.map PyData.int) = true ∧ PyData.depthAll (xs.map PyData.int) = 0
  | [] => ⟨by simp [PyData.canLayAll0], by simp [PyData.depthAll]⟩
  | x :: xs => by
    obtain ⟨h1, h2⟩ := shInts xs
    exact ⟨by simp [PyData.canLayAll0, PyData.canLay0, h1], by simp [PyData.depthAll, PyData.depth, h2]⟩
theorem shapedInts (xs : List Int) : SeqAt.shaped (.list (xs.map PyData.int)) = true := by
  obtain ⟨h1, h2⟩ := shInts xs
  unfold SeqAt.shaped
  simp [PyData.canLay0, PyData.depth, h1, h2]
theorem eqvNil : ∀ xs : List Int, PyData.eqv (.list (xs.map PyData.int)) (.list []) = xs.isEmpty
  | [] => by simp [PyData.eqv, PyData.eqvAll]
  | x :: xs => by simp [PyData.eqv, PyData.eqvAll]
/-- the test box[0] != [] -/
theorem ne0_ok {R : Rg} {env : Sls} {σ : L2.St} {H : Hp} {i : Nat} {Q : Bool → Hp → Prop} (rs : RS X.K boxA R env σ H) (hb : env[i]? = some (.val .box))
    (h : ∀ (r b : Addr) (xs : List Int) (n : Int) (H' : Hp), σ[i]? = some (some (.ref r)) → R.rt r → R.B b → H' r = some (.lst [.ref b, .int n]) → H' b = some (.lst (xs.map V.int)) → xs.length ≤ 1000 → Ext R H R H' → BoxI R H' → Q (!xs.isEmpty) H') : tNe0 X.K i σ H Q := by
  obtain ⟨r, e1, hr⟩ := rs.box hb
  obtain ⟨b, xs, n, b1, b2, b3, e2, e3, e4⟩ := rs.ok.bi.sh r hr
  refine ⟨_, e1, r, _, 0, .ref b, rfl, rfl, .inl (.inl e2), rfl, by rw [sizeLine_eq]; exact Nat.zero_le _, fun p hp => ?_⟩
  obtain ⟨x1, ok1, _, _⟩ := ext_own rs.ok (.lst []) hp
  have nr : r ≠ p := fun z => by rw [z, hp] at e2; cases e2
  have nb : b ≠ p := fun z => by rw [z, hp] at e3; cases e3
  refine ⟨_, _, .lst (.inl (.inl (by rw [upd_ne nb]; exact e3))) (dpInts xs), .lst (.inl (.inl upd_same)) .nil, shapedInts xs, shapedInts [], _, rfl, ?_⟩
  rw [eqvNil]
  exact h r b xs n _ e1 hr b2 (by rw [upd_ne nr]; exact e2) (by rw [upd_ne nb]; exact e3) e4 x1 ok1.bi
@[simp] def wDrawA (i m j : Nat) : WS := fun D env => ∃ many : Int, env[i]? = some (.val .box) ∧ env[m]? = some (.val (.int many)) ∧ CDivW 0 many ∧ i ≠ j ∧ m ≠ j ∧ j < env.length ∧ (∀ v : Int, D.rt (.int (v % many)) .frz (env.set j (.val (.int v)))) ∧ D.nx env
theorem ss_drawA (i m j : Nat) {st : Stmt} (h : PS X st (tDrawA X.K i m j)) : SS X boxA W R0 st (wDrawA i m j) := by
  refine ps_of h fun De σ H ⟨R, env, DS, rt, ⟨many, hb, hm, hc, nij, nmj, hj, hrt, hnx⟩, so⟩ => ?_
  obtain ⟨vm, em, rm⟩ := rt.rs.sl m _ hm
  obtain rfl : vm = .int many := by unfold Rep at rm; exact rm
  have hjs : j < σ.length := by rw [← rt.rs.len]; exact hj
  refine ne0_ok rt.rs hb fun r b xs n H1 e1 hr b2 e2 e3 e4 x1 bi1 => ?_
  have rt1 := rt.rok x1 bi1
  have y1 := x1.sta rt.rs.ok
  cases xs with
  | nil => exact iteF (so.nx R env σ H1 rt1 y1 hnx)
  | cons v xs =>
    refine iteT ⟨_, e1, r, _, 0, .ref b, rfl, rfl, .inl (.inl e2), rfl, .inl ⟨rfl, _, .inl (.inl e3)⟩, b, _, 0, 0, .int v, rfl, rfl, e3, by decide, by decide, by simp [seqIndex?], rfl, ?_⟩
    refine .inl ⟨v, rfl, ?_⟩
    have e4' : xs.length ≤ 1000 := by simp only [List.length_cons] at e4; omega
    have x2 : Ext R H1 R (upd H1 b (.lst (xs.map V.int))) := Ext.upB b2
    have bi2 := bi1.putB hr e2 e4'
    have rt2 := rt1.rok x2 bi2
    have nrb : r ≠ b := fun z => by
      rw [z, e3] at e2
      cases xs <;> cases e2
    have e2' : upd H1 b (.lst (xs.map V.int)) r = some (.lst [.ref b, .int n]) := by rw [upd_ne nrb]; exact e2
    have rt3 := rt2.setF (show Rep X.K R _ (.int v) (.int v) from rep_int) j
    have y2 := y1.trans (x2.sta rt1.rs.ok)
    have sj : (σ.set j (some (V.int v)))[j]? = some (some (.int v)) := List.getElem?_set_self hjs
    have sm : (σ.set j (some (V.int v)))[m]? = some (some (.int many)) := by rw [List.getElem?_set_ne (Ne.symm nmj)]; exact em
    have si : (σ.set j (some (V.int v)))[i]? = some (some (.ref r)) := by rw [List.getElem?_set_ne (Ne.symm nij)]; exact e1
    have fin : ∀ H3, RT X boxA R0 R (env.set j (.val (.int v))) (σ.set j (some (.int v))) H3 → Sta R H R H3 → tRet (tOp rMod1 (tCB rInt1 (tCons (tVar j) tNil)) (tVar m)) De (σ.set j (some (.int v))) H3 := fun H3 rt4 y4 =>
      ⟨_, sj, .inl ⟨v, rfl, _, sm, v, many, rfl, rfl, hc.1, so.rt R _ _ H3 (.int (v % many)) .frz _ rt4 y4 (show RepR X.K R R0.H H3 _ _ .frz from rep_int (K := X.K) (R := R) (H := H3)) (hrt v)⟩⟩
    refine ⟨_, sj, _, sm, v, many, rfl, rfl, hc, v / many, 0, rfl, rfl, _, rfl, ?_⟩
    by_cases hd : (0 : Int) < v / many
    · rw [decide_eq_true hd]
      refine iteT ⟨_, si, r, _, 0, .ref b, rfl, rfl, .inl (.inl e2'), rfl, .inl ⟨rfl, _, .inl (.inl upd_same)⟩, _, sj, _, sm, v, many, rfl, rfl, hc, b, _, 0, _, rfl, rfl, upd_same, ?_, Int.le_refl 0, by decide, ?_⟩
      · show (xs.map V.int).length < sizeLine
        rw [List.length_map, sizeLine_eq]; omega
      · have x4 : Ext R (upd H1 b (.lst (xs.map V.int))) R (upd (upd H1 b (.lst (xs.map V.int))) b (.lst (((v / many) :: xs).map V.int))) := Ext.upB b2
        exact fin _ (rt3.rok x4 (bi2.putB hr e2' (ys := (v / many) :: xs) (by simp only [List.length_cons]; simp only [List.length_cons] at e4; omega))) (y2.trans (x4.sta rt2.rs.ok))
    · rw [decide_eq_false hd]
      exact iteF (fin _ rt3 y2)
end
end Kn
namespace Kn
open PySem PySem.Spec L2

/-! ### a box is made -/
theorem repInts {K : PySem.W.Frag} {R : Rg} {H : Hp} : ∀ {xs : List Int} {vs : List V}, RepL K R H vs (xs.map D.int) → vs = xs.map V.int
  | [], vs, h => RepL.nil_iff.mp h
  | x :: xs, vs, h => by
    obtain ⟨v, r, rfl, h1, h2⟩ := h.cases
    unfold Rep at h1
    rw [h1, repInts h2] <;> rfl
def Rg.box (R : Rg) (a p : Addr) : Rg := { Z := R.Z, B := fun c => R.B c ∨ c = a ∨ c = p, rt := fun c => R.rt c ∨ c = p }
theorem box_new {R R2 : Rg} {H H2 : Hp} (x : Ext R H R2 H2) (ok : Rok boxA R2 H2) {a p : Addr} {xs : List Int} {n : Int} (ha : H a = none) (nz : ¬ R2.Z a) (nb : ¬ R2.B a) (ea : H2 a = some (.lst (xs.map V.int))) (hl : xs.length ≤ 1000) (hp : H2 p = none) :
    Ext R H (R2.box a p) (upd H2 p (.lst [.ref a, .int n])) ∧ Rok boxA (R2.box a p) (upd H2 p (.lst [.ref a, .int n])) := by
  have ne : ∀ c o, H2 c = some o → c ≠ p := fun c o e z => by rw [z, hp] at e; cases e
  have ap := ne a _ ea
  have bi : BoxI R2 H2 := ok.bi
  have old : ∀ {c}, R2.B c → c ≠ p := fun {c} hc => by
    obtain ⟨o, e⟩ := bi.dm c hc
    exact ne c o e
  have rold : ∀ {c}, R2.rt c → c ≠ p := fun {c} hc => by
    obtain ⟨_, _, _, b1, _⟩ := bi.sh c hc
    exact old b1
  refine ⟨⟨fun c o e nbc => ?_, fun c o e => ?_, x.zs, x.zn, fun c z => ?_, fun c z => .inl (x.rts c z)⟩, fun c z => ?_, fun c z hb => ?_, ?_⟩
  · have y := x.keep c o e nbc
    rw [upd_ne (ne c o y)]
    exact y
  · obtain ⟨o', y⟩ := x.dom c o e
    exact ⟨o', by rw [upd_ne (ne c o' y)]; exact y⟩
  · rcases z with z | rfl | rfl
    · exact x.bn c z
    · exact .inr ha
    · exact .inr (x.back hp)
  · obtain ⟨o, e⟩ := ok.zin c z
    exact ⟨o, by rw [upd_ne (ne c o e)]; exact e⟩
  · rcases hb with hb | rfl | rfl
    · exact ok.zb c z hb
    · exact nz z
    · obtain ⟨o, e⟩ := ok.zin c z
      rw [hp] at e
      cases e
  · refine ⟨fun c hc => ?_, fun r hr => ?_, fun r r' b k k' h1 h2 e1 e2 => ?_⟩
    · rcases hc with hc | rfl | rfl
      · obtain ⟨o, e⟩ := bi.dm c hc
        exact ⟨o, by rw [upd_ne (ne c o e)]; exact e⟩
      · exact ⟨_, by rw [upd_ne ap]; exact ea⟩
      · exact ⟨_, upd_same⟩
    · rcases hr with hr | rfl
      · obtain ⟨b, ys, k, b1, b2, b3, b4, b5, b6⟩ := bi.sh r hr
        exact ⟨b, ys, k, .inl b1, .inl b2, fun z => z.elim b3 (old b2), by rw [upd_ne (rold hr)]; exact b4, by rw [upd_ne (old b2)]; exact b5, b6⟩
      · refine ⟨a, xs, n, .inr (.inr rfl), .inr (.inl rfl), fun z => z.elim (fun z => ?_) ap, upd_same, by rw [upd_ne ap]; exact ea, hl⟩
        obtain ⟨_, _, _, b1, _⟩ := bi.sh a z
        exact nb b1
    · have key : ∀ {c : Addr} {k : Int}, R2.rt c → upd H2 p (.lst [.ref a, .int n]) c = some (.lst [.ref a, .int k]) → False := fun {c k} hc e => by
        rw [upd_ne (rold hc)] at e
        obtain ⟨b, ys, k, b1, b2, b3, b4, b5, b6⟩ := bi.sh c hc
        rw [e] at b4
        cases b4
        exact nb b2
      rcases h1 with h1 | rfl
      · rcases h2 with h2 | rfl
        · rw [upd_ne (rold h1)] at e1
          rw [upd_ne (rold h2)] at e2
          exact bi.sp r r' b k k' h1 h2 e1 e2
        · rw [upd_same] at e2
          cases e2
          exact (key h1 e1).elim
      · rcases h2 with h2 | rfl
        · rw [upd_same] at e1
          cases e1
          exact (key h2 e2).elim
        · rfl
section
variable {X : Cx} {W : WX} {R0 : Bg} {a b : Expr} {wa wb : WE} {pos : Pos}
@[simp] def wMkBox (a0 a1 : WE) : WE := fun env Q E => a0 env (fun d k => k = .own ∧ ∃ xs : List Int, d = .lst (xs.map D.int) ∧ xs.length ≤ 1000 ∧ a1 env (fun d1 _ => (∃ n, d1 = .int n) ∧ Q .box .frz) E) E
theorem se_mkBox (ha : SE X boxA W a wa) (hb : SE X boxA W b wb) (h1 : starEach [a, b] X.env = (false, eval a X.env) :: starEach [b] X.env := by rfl) (h2 : starEach [b] X.env = (false, eval b X.env) :: starEach [] X.env := by rfl) : SE X boxA W (.List [a, b] pos) (wMkBox wa wb) := by
  refine pe_of (pe_lst (pa_cons ha (pa_cons hb pa_nil h2) h1)) fun σ H Q ⟨R, env, Qd, Ed, rs, h, hq, hx⟩ => ?_
  refine ⟨R, env, _, Ed, rs, h, fun d k v R1 H1 x1 ok1 r1 ⟨hk, xs, hd, hl, q⟩ => ?_, hx⟩
  subst hk hd
  obtain ⟨p0, rfl, n0, nz, nb, vs, ds, e1, e2, e3⟩ := r1
  obtain rfl : xs.map D.int = ds := D.lst.inj e1
  rw [repInts e3] at e2
  refine ⟨R1, env, _, Ed, rs.ext x1 ok1, q, fun d2 k2 u R2 H2 x2 ok2 r2 ⟨⟨n, hn⟩, q2⟩ => ?_, hx.ext x1⟩
  subst hn
  have hu := r2.vw.int
  subst hu
  refine ⟨by rw [sizeLine_eq]; exact (by decide : (2 : Nat) ≤ 16777216), fun p hp => ?_⟩
  have out1 : ¬ R2.Z p0 := fun z => (x2.zn p0 z).elim nz fun z => by rw [e2] at z; cases z
  have out2 : ¬ R2.B p0 := fun z => (x2.bn p0 z).elim nb fun z => by rw [e2] at z; cases z
  obtain ⟨x3, ok3⟩ := box_new (n := n) (x1.trans x2) ok2 n0 out1 out2 (x2.keep p0 _ e2 nb) hl hp
  refine hq .box .frz (.ref p) _ _ x3 ok3 ?_ q2
  show Rep _ _ _ _ _
  unfold Rep
  exact ⟨p, rfl, .inr rfl⟩
end
end Kn
namespace Kn
open PySem PySem.Spec L2

theorem bt_len : bootBuiltins "len" = some (.builtin "len") := by decide +kernel
theorem bt_abs : bootBuiltins "abs" = some (.builtin "abs") := by decide +kernel
theorem bt_int : bootBuiltins "int" = some (.type "int") := by decide +kernel
theorem bt_bool : bootBuiltins "bool" = some (.type "bool") := by decide +kernel
theorem bt_str : bootBuiltins "str" = some (.type "str") := by decide +kernel
theorem bt_list : bootBuiltins "list" = some (.type "list") := by decide +kernel
theorem bt_tuple : bootBuiltins "tuple" = some (.type "tuple") := by decide +kernel
theorem bt_dict : bootBuiltins "dict" = some (.type "dict") := by decide +kernel
/-- a weaker promise -/
theorem spOf_imp {K : PySem.W.Frag} {mg : Str → Option Value} {κ : BoxKit} {n : Nat} {f f' : PSp} (h : ∀ ds Q E, f' ds Q E → f ds Q E) {vs : List V} {H : Hp} {Q : VK} {E : XK} (q : spOf K mg κ n f' vs H Q E) : spOf K mg κ n f vs H Q E := by
  obtain ⟨hl, R, ds, Qd, Ed, ok, r, hw, hq, hx⟩ := q
  exact ⟨hl, R, ds, Qd, Ed, ok, r, h _ _ _ hw, hq, hx⟩
section
variable {P : Program} {wd : World} {K : PySem.W.Frag} {mg : Str → Option Value} {base : Heap} {κ : BoxKit} {k n : Nat} {x : Str} {f f' : PSp}
theorem FnAt.imp (F : FnAt P wd K mg base κ k x n f) (h : ∀ ds Q E, f' ds Q E → f ds Q E) : FnAt P wd K mg base κ k x n f' := by
  obtain ⟨a, fd, ps, hm, hk, hb, G⟩ := F.ex
  exact ⟨a, fd, ps, hm, hk, hb, G.imp fun vs H Q E q => spOf_imp h q⟩
theorem FnAtH.imp (F : FnAtH P wd K mg base κ k x n f) (h : ∀ ds Q E, f' ds Q E → f ds Q E) : FnAtH P wd K mg base κ k x n f' := by
  obtain ⟨a, fd, ps, hm, hk, hb, G⟩ := F.ex
  exact ⟨a, fd, ps, hm, hk, hb, ⟨fun vs H Q E q => G.len vs H Q E (spOf_imp h q), fun A outer s H args us vs Q E p hr hp hq he hb hv hs => G.run A outer s H args us vs Q E p hr hp hq he hb hv (spOf_imp h hs)⟩⟩
/-- nothing is promised -/
theorem FnAt.bot {qual : Str} {params : Arguments} {body : List Stmt} {scope : Scope} {fa : Addr} {fd : FuncData} {ps : List Str} (F : FunD K x qual params body scope [] [] fa fd) (hm : mg x = some (.ref fa))
    (h : ∀ (kV doc pm : Value) (an : Option Addr) (cdv ct : Value) (us : List Value), us.length = ps.length → bindArgs (PySem.W.fnOf x qual params body scope .none kV doc pm an cdv ct) ⟨us, []⟩ = pure (ps.zip us)) : FnAt P wd K mg base κ k x n (fun _ _ _ => False) :=
  ⟨fa, fd, ps, hm, F.kp, F.bindsN h, ⟨fun vs H Q E ⟨_, _, _, _, _, _, _, z, _⟩ => z.elim, fun A outer s H args us vs Q E _ _ _ _ ⟨_, _, _, _, _, _, _, z, _⟩ => z.elim⟩⟩
end
section
variable {X : Cx} {κ : BoxKit} {W : WX} {pos : Pos} {x : Str}
theorem se_globI {i : Int} (hg : Gl X x) (h : ∃ t, X.mg x = some (.int i t)) (hd : (x == ("__debug__" : Str)) = false := by decide) : SE X κ W (.Name x pos) (wLit (.int i)) := by
  obtain ⟨t, hm⟩ := h
  exact se_glob (v := .int i) hg hm ⟨t, rfl⟩ (fun R H => rep_int) hd
theorem se_globS {z : Str} (hg : Gl X x) (h : ∃ t, X.mg x = some (.str z t)) (hd : (x == ("__debug__" : Str)) = false := by decide) : SE X κ W (.Name x pos) (wLit (.str z)) := by
  obtain ⟨t, hm⟩ := h
  exact se_glob (v := .str z) hg hm ⟨t, rfl⟩ (fun R H => rep_str) hd
end
end Kn
namespace Kn
open PySem PySem.Spec L2
theorem roomS {k : Nat} {A : Around} {v : Option Value} (r : Room k A) : L2H.RoomH k (A.mark v) := ⟨r.dp, r.un⟩
theorem hotU {k : Nat} {A : Around} (r : L2H.RoomH k A) : A.units + 64 < cLine := by
  have := r.un
  omega
end Kn
namespace Kn
open PySem PySem.Spec L2
/-- a comprehension's block, checked -/
def blkB (N : List Str) (sc scope : Scope) (own : List (Str × Nat)) : Bool :=
  decide (scope.kind = .function) && (scope.names.all fun y => decide (scope.names.lookup y.1 = some y.2)) && (own.all fun p => decide (N[p.2]? = some p.1)) &&
  (scope.names.all fun y => decide (y.2 ≠ .free) || decide (sc.names.lookup y.1 = some .cell) || decide (sc.names.lookup y.1 = some .free)) &&
  (scope.names.all fun y => (decide (y.2 ≠ .local) && decide (y.2 ≠ .cell)) || decide (y.1 ∈ own.map (·.1)) || decide (y.1 ∉ N))
theorem blk_ok {N : List Str} {sc scope : Scope} {own : List (Str × Nat)} (h : blkB N sc scope own = true) : BlkOk N sc scope own := by
  unfold blkB at h
  simp only [Bool.and_eq_true, decide_eq_true_eq] at h
  obtain ⟨⟨⟨⟨h1, h2⟩, h3⟩, h4⟩, h5⟩ := h
  refine ⟨h1, fun y hy => of_decide_eq_true (List.all_eq_true.mp h2 y hy), fun p hp => of_decide_eq_true (List.all_eq_true.mp h3 p hp), fun y hy e => ?_, fun y hy e => ?_⟩
  · have z := List.all_eq_true.mp h4 y hy
    simp only [Bool.or_eq_true, decide_eq_true_eq] at z
    rcases z with (z | z) | z
    · exact absurd e z
    · exact .inl z
    · exact .inr z
  · have z := List.all_eq_true.mp h5 y hy
    simp only [Bool.or_eq_true, Bool.and_eq_true, decide_eq_true_eq] at z
    rcases z with (z | z) | z
    · rcases e with e | e
      · exact absurd e z.1
      · exact absurd e z.2
    · exact .inl z
    · exact .inr z
end Kn
namespace Kn
open PySem PySem.Spec L2

@[simp] theorem ki_int_int : kitAnyB "int" ["int"] = some true := by decide +kernel
@[simp] theorem ki_int_bool : kitAnyB "int" ["bool"] = some false := by decide +kernel
@[simp] theorem ki_int_str : kitAnyB "int" ["str"] = some false := by decide +kernel
@[simp] theorem ki_int_list : kitAnyB "int" ["list"] = some false := by decide +kernel
@[simp] theorem ki_int_tuple : kitAnyB "int" ["tuple"] = some false := by decide +kernel
@[simp] theorem ki_int_list_tuple : kitAnyB "int" ["list", "tuple"] = some false := by decide +kernel
@[simp] theorem ki_int_dict : kitAnyB "int" ["dict"] = some false := by decide +kernel
@[simp] theorem ki_bool_int : kitAnyB "bool" ["int"] = some true := by decide +kernel
@[simp] theorem ki_bool_bool : kitAnyB "bool" ["bool"] = some true := by decide +kernel
@[simp] theorem ki_bool_str : kitAnyB "bool" ["str"] = some false := by decide +kernel
@[simp] theorem ki_bool_list : kitAnyB "bool" ["list"] = some false := by decide +kernel
@[simp] theorem ki_bool_tuple : kitAnyB "bool" ["tuple"] = some false := by decide +kernel
@[simp] theorem ki_bool_list_tuple : kitAnyB "bool" ["list", "tuple"] = some false := by decide +kernel
@[simp] theorem ki_bool_dict : kitAnyB "bool" ["dict"] = some false := by decide +kernel
@[simp] theorem ki_str_int : kitAnyB "str" ["int"] = some false := by decide +kernel
@[simp] theorem ki_str_bool : kitAnyB "str" ["bool"] = some false := by decide +kernel
@[simp] theorem ki_str_str : kitAnyB "str" ["str"] = some true := by decide +kernel
@[simp] theorem ki_str_list : kitAnyB "str" ["list"] = some false := by decide +kernel
@[simp] theorem ki_str_tuple : kitAnyB "str" ["tuple"] = some false := by decide +kernel
@[simp] theorem ki_str_list_tuple : kitAnyB "str" ["list", "tuple"] = some false := by decide +kernel
@[simp] theorem ki_str_dict : kitAnyB "str" ["dict"] = some false := by decide +kernel
@[simp] theorem ki_list_int : kitAnyB "list" ["int"] = some false := by decide +kernel
@[simp] theorem ki_list_bool : kitAnyB "list" ["bool"] = some false := by decide +kernel
@[simp] theorem ki_list_str : kitAnyB "list" ["str"] = some false := by decide +kernel
@[simp] theorem ki_list_list : kitAnyB "list" ["list"] = some true := by decide +kernel
@[simp] theorem ki_list_tuple : kitAnyB "list" ["tuple"] = some false := by decide +kernel
@[simp] theorem ki_list_list_tuple : kitAnyB "list" ["list", "tuple"] = some true := by decide +kernel
@[simp] theorem ki_list_dict : kitAnyB "list" ["dict"] = some false := by decide +kernel
@[simp] theorem ki_tuple_int : kitAnyB "tuple" ["int"] = some false := by decide +kernel
@[simp] theorem ki_tuple_bool : kitAnyB "tuple" ["bool"] = some false := by decide +kernel
@[simp] theorem ki_tuple_str : kitAnyB "tuple" ["str"] = some false := by decide +kernel
@[simp] theorem ki_tuple_list : kitAnyB "tuple" ["list"] = some false := by decide +kernel
@[simp] theorem ki_tuple_tuple : kitAnyB "tuple" ["tuple"] = some true := by decide +kernel
@[simp] theorem ki_tuple_list_tuple : kitAnyB "tuple" ["list", "tuple"] = some true := by decide +kernel
@[simp] theorem ki_tuple_dict : kitAnyB "tuple" ["dict"] = some false := by decide +kernel
@[simp] theorem ki_NoneType_int : kitAnyB "NoneType" ["int"] = some false := by decide +kernel
@[simp] theorem ki_NoneType_bool : kitAnyB "NoneType" ["bool"] = some false := by decide +kernel
@[simp] theorem ki_NoneType_str : kitAnyB "NoneType" ["str"] = some false := by decide +kernel
@[simp] theorem ki_NoneType_list : kitAnyB "NoneType" ["list"] = some false := by decide +kernel
@[simp] theorem ki_NoneType_tuple : kitAnyB "NoneType" ["tuple"] = some false := by decide +kernel
@[simp] theorem ki_NoneType_list_tuple : kitAnyB "NoneType" ["list", "tuple"] = some false := by decide +kernel
@[simp] theorem ki_NoneType_dict : kitAnyB "NoneType" ["dict"] = some false := by decide +kernel
/-! ### what the readings say, case by case -/
@[simp] theorem wVar_val {i : Nat} {env : Sls} {Q : QD} {E : XD} {d : D} (h : env[i]? = some (.val d)) : wVar i env Q E = Q d .frz := by
  unfold wVar
  rw [h]
@[simp] theorem wVar_own {i : Nat} {env : Sls} {Q : QD} {E : XD} {d : D} (h : env[i]? = some (.own d)) : wVar i env Q E = Q d .bor := by
  unfold wVar
  rw [h]
@[simp] theorem frz1_own {i : Nat} {env : Sls} {d : D} (h : env[i]? = some (.own d)) : frz1 i env = env.set i (.val d) := by
  unfold frz1
  rw [h]
@[simp] theorem frz1_val {i : Nat} {env : Sls} {d : D} (h : env[i]? = some (.val d)) : frz1 i env = env := by
  unfold frz1
  rw [h]
@[simp] theorem frz1_un {i : Nat} {env : Sls} (h : env[i]? = some .un) : frz1 i env = env := by
  unfold frz1
  rw [h]
@[simp] theorem truth_non {Q : Bool → Prop} : truth .non Q = Q false := rfl
@[simp] theorem truth_bl {b : Bool} {Q : Bool → Prop} : truth (.bl b) Q = Q b := rfl
@[simp] theorem truth_int {i : Int} {Q : Bool → Prop} : truth (.int i) Q = Q (i != 0) := rfl
@[simp] theorem truth_tup {ds : List D} {Q : Bool → Prop} : truth (.tup ds) Q = Q (!ds.isEmpty) := rfl
@[simp] theorem truth_lst {ds : List D} {Q : Bool → Prop} : truth (.lst ds) Q = Q (!ds.isEmpty) := rfl
@[simp] theorem mv_frz : mv .frz = .frz := rfl
@[simp] theorem mv_own : mv .own = .own := rfl
@[simp] theorem mv_bor : mv .bor = .own := rfl
@[simp] theorem slot_frz {d : D} : slot d .frz = .val d := rfl
@[simp] theorem slot_own {d : D} : slot d .own = .own d := rfl
@[simp] theorem gsNil_nil {env : Sls} {nx : Sls → Prop} : gsNil [] env nx = nx env := by simp [gsNil]
@[simp] theorem gsCons_cons {g : WG} {gs : WGs} {d : D} {r : List D} {env : Sls} {nx : Sls → Prop} : gsCons g gs (d :: r) env nx = g d env fun env' => gs r env' nx := by
  unfold gsCons
  exact propext ⟨fun ⟨d', r', e, q⟩ => by cases e; exact q, fun q => ⟨d, r, rfl, q⟩⟩
@[simp] theorem gT_tup {n : Nat} {gs : WGs} {ds : List D} {env : Sls} {nx : Sls → Prop} : gT n gs (.tup ds) env nx = (ds.length = n ∧ gs ds env nx) := by
  unfold gT
  exact propext ⟨fun ⟨ds', e, q⟩ => by cases e; exact q, fun q => ⟨ds, rfl, q⟩⟩
@[simp] theorem gL_lst {n : Nat} {gs : WGs} {ds : List D} {env : Sls} {nx : Sls → Prop} : gL n gs (.lst ds) env nx = (ds.length = n ∧ gs ds env nx) := by
  unfold gL
  exact propext ⟨fun ⟨ds', e, q⟩ => by cases e; exact q, fun q => ⟨ds, rfl, q⟩⟩
@[simp] theorem fAdd_int {i j : Int} {Q : QD} : fAdd (.int i) (.int j) Q = Q (.int (i + j)) .frz := rfl
@[simp] theorem fAdd_lst {a b : List D} {Q : QD} : fAdd (.lst a) (.lst b) Q = (a.length + b.length ≤ sizeLine ∧ Q (.lst (a ++ b)) .own) := rfl
@[simp] theorem fAdd_tup {a b : List D} {Q : QD} : fAdd (.tup a) (.tup b) Q = (a.length + b.length ≤ sizeLine ∧ Q (.tup (a ++ b)) .frz) := rfl
@[simp] theorem fMul_lst {a : List D} {k : Int} {Q : QD} : fMul (.lst a) (.int k) Q = (-(2 ^ 63) ≤ k ∧ k < 2 ^ 63 ∧ a.length * k.toNat ≤ sizeLine ∧ Q (.lst (List.replicate k.toNat a).flatten) .own) := rfl
@[simp] theorem fMul_tup {a : List D} {k : Int} {Q : QD} : fMul (.tup a) (.int k) Q = (a ≠ [] ∧ 2 ≤ k ∧ k ≤ 1000 ∧ a.length ≤ 1000 ∧ Q (.tup (List.replicate k.toNat a).flatten) .frz) := rfl
@[simp] theorem size_lit : sizeLine = 16777216 := sizeLine_eq
@[simp] theorem ixN_nat {n m : Nat} : ixN n (m : Int) = if m < n then some m else none := by
  unfold L2.ixN
  by_cases h : m < n
  · rw [if_pos (by omega), if_pos (by omega), if_pos h]
    rfl
  · rw [if_pos (by omega), if_neg (by omega), if_neg h]
@[simp] theorem fII_int {C : Int → Int → Prop} {g : Int → Int → D} {i j : Int} {Q : QD} : fII C g (.int i) (.int j) Q = (C i j ∧ Q (g i j) .frz) := rfl
@[simp] theorem fMul_int {i j : Int} {Q : QD} : fMul (.int i) (.int j) Q = (IntMulOk i j ∧ Q (.int (i * j)) .frz) := rfl
@[simp] theorem fNeg_int {i : Int} {Q : QD} : fNeg (.int i) Q = Q (.int (-i)) .frz := rfl
@[simp] theorem isNon_non : isNon .non = true := rfl
@[simp] theorem isNon_bl {b : Bool} : isNon (.bl b) = false := rfl
@[simp] theorem isNon_int {i : Int} : isNon (.int i) = false := rfl
@[simp] theorem isNon_str {z : Str} : isNon (.str z) = false := rfl
@[simp] theorem isNon_tup {ds : List D} : isNon (.tup ds) = false := rfl
@[simp] theorem isNon_lst {ds : List D} : isNon (.lst ds) = false := rfl
@[simp] theorem isNon_obj {c : Str} {fs : List (Str × D)} : isNon (.obj c fs) = false := rfl
@[simp] theorem fIsN_non {Q : QD} : fIsN .non Q = Q (.bl true) .frz := rfl
@[simp] theorem fIsN_bl {b : Bool} {Q : QD} : fIsN (.bl b) Q = Q (.bl false) .frz := rfl
@[simp] theorem fIsN_int {i : Int} {Q : QD} : fIsN (.int i) Q = Q (.bl false) .frz := rfl
@[simp] theorem fIsN_str {z : Str} {Q : QD} : fIsN (.str z) Q = Q (.bl false) .frz := rfl
@[simp] theorem fIsN_tup {ds : List D} {Q : QD} : fIsN (.tup ds) Q = Q (.bl false) .frz := rfl
@[simp] theorem fIsN_lst {ds : List D} {Q : QD} : fIsN (.lst ds) Q = Q (.bl false) .frz := rfl
@[simp] theorem fIsN_obj {c : Str} {fs : List (Str × D)} {Q : QD} : fIsN (.obj c fs) Q = Q (.bl false) .frz := rfl
@[simp] theorem fIx_lst {a : List D} {i : Int} {Q : QD} : fIx (.lst a) (.int i) Q = ∃ d, atI a i = some d ∧ Q d .frz := rfl
@[simp] theorem fIx_tup {a : List D} {i : Int} {Q : QD} : fIx (.tup a) (.int i) Q = ∃ d, atI a i = some d ∧ Q d .frz := rfl
@[simp] theorem fIx_scr {a : List Int} {i : Int} {Q : QD} : fIx (.scr a) (.int i) Q = ∃ d, atI a i = some d ∧ Q (.int d) .frz := rfl
@[simp] theorem fSl_lst {a : List D} {lo hi : Option Int} {Q : QD} : fSl (.lst a) lo hi Q = Q (.lst (cutD a lo hi)) .own := rfl
@[simp] theorem fSl_tup {a : List D} {lo hi : Option Int} {Q : QD} : fSl (.tup a) lo hi Q = Q (.tup (cutD a lo hi)) .frz := rfl
@[simp] theorem fSl_scr {a : List Int} {lo hi : Option Int} {Q : QD} : fSl (.scr a) lo hi Q = Q (.lst (cutD (a.map D.int) lo hi)) .own := rfl
@[simp] theorem fLen_lst {a : List D} {Q : QD} : fLen [.lst a] Q = Q (.int a.length) .frz := rfl
@[simp] theorem fLen_tup {a : List D} {Q : QD} : fLen [.tup a] Q = Q (.int a.length) .frz := rfl
@[simp] theorem fLen_scr {a : List Int} {Q : QD} : fLen [.scr a] Q = Q (.int a.length) .frz := rfl
@[simp] theorem fAbs_int {i : Int} {Q : QD} : fAbs [.int i] Q = Q (.int (if i < 0 then -i else i)) .frz := rfl
@[simp] theorem fInt_int {i : Int} {Q : QD} : fInt [.int i] Q = Q (.int i) .frz := rfl
@[simp] theorem fInt_bl {b : Bool} {Q : QD} : fInt [.bl b] Q = Q (.int (if b then 1 else 0)) .frz := rfl
@[simp] theorem fTuple_lst {a : List D} {Q : QD} : fTuple [.lst a] Q = Q (.tup a) .frz := rfl
@[simp] theorem fTuple_tup {a : List D} {Q : QD} : fTuple [.tup a] Q = Q (.tup a) .frz := rfl
@[simp] theorem fList_lst {a : List D} {Q : QD} : fList [.lst a] Q = Q (.lst a) .own := rfl
@[simp] theorem fList_tup {a : List D} {Q : QD} : fList [.tup a] Q = Q (.lst a) .own := rfl
@[simp] theorem tyOf_non : tyOf .non = some "NoneType" := rfl
@[simp] theorem tyOf_bl {b : Bool} : tyOf (.bl b) = some "bool" := rfl
@[simp] theorem tyOf_int {i : Int} : tyOf (.int i) = some "int" := rfl
@[simp] theorem tyOf_str {z : Str} : tyOf (.str z) = some "str" := rfl
@[simp] theorem tyOf_tup {ds : List D} : tyOf (.tup ds) = some "tuple" := rfl
@[simp] theorem tyOf_lst {ds : List D} : tyOf (.lst ds) = some "list" := rfl
@[simp] theorem seqD_lst {ds : List D} {Q : List D → Prop} : seqD (.lst ds) Q = Q ds := rfl
@[simp] theorem seqD_tup {ds : List D} {Q : List D → Prop} : seqD (.tup ds) Q = Q ds := rfl
theorem cons_eq {α : Type} {a b : α} {l m : List α} (h : a = b) (h' : l = m) : a :: l = b :: m := by rw [h, h']
/-! ### loops over what enumerate, range give -/
def enumF : Nat → List D → List D
  | _, [] => []
  | n, d :: ds => .tup [.int (n : Int), d] :: enumF (n + 1) ds
theorem enumD_eqF : ∀ (ds : List D) (n : Nat), (ds.mapIdx fun (i : Nat) (d : D) => D.tup [.int ((n + i : Nat) : Int), d]) = enumF n ds
  | [], _ => rfl
  | d :: ds, n => by
    rw [List.mapIdx_cons]
    unfold enumF
    refine cons_eq (by simp) ?_
    rw [← enumD_eqF ds (n + 1)]
    refine List.ext_getElem? fun i => ?_
    simp only [List.getElem?_mapIdx]
    cases ds[i]? with
    | none => rfl
    | some x => simp only [Option.map_some]; congr 4; omega
theorem enumD_eq (ds : List D) : enumD ds = enumF 0 ds := by
  rw [← enumD_eqF]
  unfold enumD
  simp
def rngF : Int → Nat → List D
  | _, 0 => []
  | lo, n + 1 => .int lo :: rngF (lo + 1) n
theorem rangeD_eq : ∀ (n : Nat) (lo : Int), rangeD lo n = rngF lo n
  | 0, lo => rfl
  | n + 1, lo => by
    unfold rngF
    rw [← rangeD_eq n (lo + 1)]
    unfold rangeD
    rw [List.range_succ_eq_map, List.map_cons, List.map_map]
    refine cons_eq (by simp) ?_
    refine List.map_congr_left fun i _ => ?_
    simp only [Function.comp]
    congr 1
    push_cast
    omega
/-- of ints -/
def dI (xs : List Int) : List D := xs.map D.int
def T (xs : List Int) : D := .tup (dI xs)
def L (xs : List Int) : D := .lst (dI xs)
@[simp] theorem dI_len (xs : List Int) : (dI xs).length = xs.length := by simp [dI]
theorem Sh.T {xs : List Int} : Sh 1 (T xs) := Sh.tup fun d hd => by
  obtain ⟨i, _, rfl⟩ := List.mem_map.mp hd
  exact Sh.int
theorem Sh.L {xs : List Int} : Sh 1 (L xs) := Sh.lst fun d hd => by
  obtain ⟨i, _, rfl⟩ := List.mem_map.mp hd
  exact Sh.int
theorem eqvInts : ∀ xs ys : List Int, PyData.eqvAll (pdL (dI xs)) (pdL (dI ys)) = decide (xs = ys)
  | [], [] => by simp [dI, pdL, PyData.eqvAll]
  | [], y :: ys => by simp [dI, pdL, PyData.eqvAll]
  | x :: xs, [] => by simp [dI, pdL, PyData.eqvAll]
  | x :: xs, y :: ys => by
    have ih := eqvInts xs ys
    unfold dI at ih ⊢
    simp only [List.map_cons, pdL, pd, PyData.eqvAll, PyData.eqv, ih]
    by_cases h1 : x = y <;> by_cases h2 : xs = ys <;> simp [h1, h2]
@[simp] theorem eqD_T (xs ys : List Int) : eqD (T xs) (T ys) = decide (xs = ys) := by
  unfold eqD T
  simp only [pd, PyData.eqv]
  exact eqvInts xs ys
@[simp] theorem eqD_L (xs ys : List Int) : eqD (L xs) (L ys) = decide (xs = ys) := by
  unfold eqD L
  simp only [pd, PyData.eqv]
  exact eqvInts xs ys
@[simp] theorem eqD_int (i j : Int) : eqD (.int i) (.int j) = decide (i = j) := by
  unfold eqD
  simp only [pd, PyData.eqv]
  by_cases h : i = j <;> simp [h]
/-- compared -/
theorem eq_int {neg : Bool} {i j : Int} {Q : QD} : fEqD neg (.int i) (.int j) Q ↔ Q (.bl (neg ^^ decide (i = j))) .frz := by
  constructor
  · rintro ⟨_, _, _, _, q⟩
    have := eqD_int i j
    unfold eqD at this
    rw [this] at q
    exact q
  · exact fun q => fEqD_of (n := 0) (m := 0) Sh.int Sh.int (by rw [eqD_int]; exact q)
@[simp] theorem fEqD_int {neg : Bool} {i j : Int} {Q : QD} : fEqD neg (.int i) (.int j) Q = Q (.bl (neg ^^ decide (i = j))) .frz := propext eq_int
end Kn
namespace Kn
open PySem PySem.Spec L2

/-! ### what the head tells -/
/-- an own exception's __init__: where it stands in the text -/
structure InD where
  cls : Str
  par : Str
  msg : Str
  qual : Str
  p1 : Pos
  p2 : Pos
  q : Nat → Pos
abbrev FnI : Type := Option (Str × Arguments × FuncBody × Scope × Addr × Addr)
def iniA (K : PySem.W.Frag) (x : Str) : Addr := He.ma K (He.ga K x) "__init__"
def fnI (K : PySem.W.Frag) (x : Str) : FnI := match K.lookup (iniA K x) with
  | some ⟨_, _, .func fd, _⟩ => some (fd.qualname, fd.params, fd.body, fd.scope, fd.globals, fd.builtins)
  | _ => none
def InD.val (d : InD) : FnI := some (d.qual, supA d.par d.p1 d.p2, .stmts (supB d.par d.msg d.q), supS d.par, mainGlobals, builtinsNs)
def cellB (K : PySem.W.Frag) (cl : List (Str × Addr)) (C : Addr) : Bool := match cl with
  | [(x, cc)] => decide (x = "__class__") && (match K.lookup cc with
    | some ⟨_, _, .cell (some (.ref D)), _⟩ => decide (D = C)
    | _ => false)
  | _ => false
def fileB (P : Program) (K : PySem.W.Frag) (cd : Value) : Bool := match cd with
  | .ref a => (match K.lookup a with
    | some ⟨_, _, .fields vs, _⟩ => (match (vs[2]? : Option Value) with
      | some (.str f _) => ((P.main.file : Str) == f)
      | _ => false)
    | _ => false)
  | _ => false
def nonB : Value → Bool
  | .none => true
  | _ => false
theorem nonB_ok {v : Value} (h : nonB v = true) : v = .none := by
  cases v <;> first | rfl | cases h
theorem cellB_ok {K : PySem.W.Frag} {cl : List (Str × Addr)} {C : Addr} (h : cellB K cl C = true) : ∃ cc, cl = [(("__class__" : Str), cc)] ∧ ∃ (c1 : Value) (c2 : Option Addr) (c3 : Array (Option Value)), K.lookup cc = some ⟨c1, c2, .cell (some (.ref C)), c3⟩ := by
  unfold cellB at h
  split at h
  · rename_i y cc
    obtain ⟨h1, h2⟩ := Bool.and_eq_true_iff.mp h
    have ey : y = "__class__" := of_decide_eq_true h1
    split at h2
    · rename_i c1 c2 D c3 ec
      have eD : D = C := of_decide_eq_true h2
      exact ⟨cc, by rw [ey], c1, c2, c3, by rw [← eD]; exact ec⟩
    · cases h2
  · cases h
theorem fileB_ok {P : Program} {K : PySem.W.Frag} {cd : Value} (h : fileB P K cd = true) : ∃ cda, cd = .ref cda ∧ ∃ (ccl : Value) (cdd : Option Addr) (ccs : Array (Option Value)) (vs : Array Value) (file : Str) (tf : Tok), K.lookup cda = some ⟨ccl, cdd, .fields vs, ccs⟩ ∧ vs[2]? = some (.str file tf) ∧ ((P.main.file : Str) == file) = true := by
  unfold fileB at h
  split at h
  · rename_i cda
    split at h
    · rename_i ccl cdd vs ccs ef
      split at h
      · rename_i f tf ev
        exact ⟨cda, rfl, ccl, cdd, ccs, vs, f, tf, ef, ev, h⟩
      · cases h
    · cases h
  · cases h
def iniB (P : Program) (K : PySem.W.Frag) (x qual : Str) : Bool := match K.lookup (iniA K x) with
  | some ⟨_, _, .func fd, _⟩ => PySem.W.codeIn K fd.code qual && (cellB K fd.closure (He.ga K x) && (fileB P K fd.code && (nonB fd.defaults && nonB fd.kwdefaults)))
  | _ => false
def clsB (P : Program) (K : PySem.W.Frag) (x par : Str) : Bool :=
  PySem.W.excInitIn K (He.ga K x) exB "Exception.__new__" && (PySem.W.excOver K (He.ga K x) exB && (PySem.W.hasDictIn K (He.ga K x) &&
  (decide (PySem.W.findIn K (.ref (He.ga K x)) "__setattr__" = some (some (.builtin "object.__setattr__"))) && (decide (PySem.W.findIn K (.ref (He.ga K x)) "__getattribute__" = some (some (.builtin "BaseException.__getattribute__"))) &&
  (decide (PySem.W.findIn K (.ref (He.ga K x)) "__getattr__" = some none) && (decide (PySem.W.findIn K (.ref (He.ga K x)) par = some none) &&
  (decide (PySem.W.subIn K (.ref (He.ga K x)) (.type "BaseException") = some true) && (decide (PySem.W.subIn K (.ref (He.ga K x)) (.type "Exception") = some true) &&
  (decide (PySem.W.typeIn K (.ref (He.ga K x)) = some (.type "type")) && (PySem.W.keepIn K (.ref (He.ga K x)) && (decide (PySem.W.subIn K (.ref (He.ga K x)) (.ref (He.ga K x)) = some true) &&
  (decide (PySem.W.nsIn K cStatics "thirdparty.any" = some none) && (decide (PySem.W.ks_superIn K (He.ga K x) (He.ga K x) "__init__" = some (some (.builtin "Exception.__init__"))) &&
  (decide (PySem.W.findIn K (.ref (He.ga K x)) "__init__" = some (some (.ref (iniA K x)))) && (PySem.W.isFn K (.ref (iniA K x)) && decide ((P.main.scope.names.lookup ("super" : Str)).isSome = false))))))))))))))))
def InD.ok (P : Program) (K : PySem.W.Frag) (d : InD) : Bool := clsB P K d.cls d.par && (iniB P K d.cls d.qual && (((d.q 2).endLine == (d.q 4).line) && (decide (d.par = "at") || decide (d.par = "word"))))
theorem ba {a b : Bool} (h : (a && b) = true) : a = true ∧ b = true := Bool.and_eq_true_iff.mp h
theorem InD.sup {P : Program} {K : PySem.W.Frag} {d : InD} (e : fnI K d.cls = d.val) (c : d.ok P K = true) : SupC P K (He.ga K d.cls) d.par := by
  obtain ⟨c1, c⟩ := ba c
  obtain ⟨c2, c⟩ := ba c
  obtain ⟨c3, c4⟩ := ba c
  unfold clsB at c1
  simp only [Bool.and_eq_true, decide_eq_true_eq] at c1
  obtain ⟨k1, k2, k3, k4, k5, k6, k7, k8, k9, k10, k11, k12, k13, k14, k15, k16, k17⟩ := c1
  refine ⟨k1, k2, k3, k4, k5, k6, k7, k8, k9, k10, k11, k12, k13, k14, ⟨iniA K d.cls, k15, k16, ?_⟩, k17, by simpa using c4⟩
  unfold fnI at e
  unfold iniB at c2
  cases q : K.lookup (iniA K d.cls) with
  | none =>
    rw [q] at c2
    cases c2
  | some o =>
    obtain ⟨oc, od, dt, osl⟩ := o
    rw [q] at c2 e
    cases dt with
    | func fd =>
      obtain ⟨n1, n2, n3, n4, n5, n6, n7, n8, n9, n10, n11, n12, n13, n14, n15⟩ := fd
      have e2 : (some (n2, n3, n4, n5, n6, n15) : FnI) = some (d.qual, supA d.par d.p1 d.p2, .stmts (supB d.par d.msg d.q), supS d.par, mainGlobals, builtinsNs) := e
      simp only [Option.some.injEq, Prod.mk.injEq] at e2
      obtain ⟨h1, h2, h3, h4, h5, h6⟩ := e2
      subst h1 h2 h3 h4 h5 h6
      obtain ⟨m1, c2⟩ := ba (show (PySem.W.codeIn K n13 d.qual && (cellB K n7 (He.ga K d.cls) && (fileB P K n13 && (nonB n8 && nonB n9)))) = true from c2)
      obtain ⟨m2, c2⟩ := ba c2
      obtain ⟨m3, c2⟩ := ba c2
      obtain ⟨m4, m5⟩ := ba c2
      have e8 := nonB_ok m4
      have e9 := nonB_ok m5
      obtain ⟨cc, e7, c1, cdd1, csl, ec⟩ := cellB_ok m2
      obtain ⟨cda, e13, ccl, cdd, ccs, vs, f, tf, ef, ev, eq⟩ := fileB_ok m3
      subst e8 e9 e7 e13
      exact ⟨oc, od, osl, n1, d.qual, d.msg, d.p1, d.p2, d.q, n10, n11, n14, n12, cc, cda, c3, rfl, m1, ⟨c1, cdd1, csl, ec⟩, ⟨ccl, cdd, ccs, vs, f, tf, ef, ev, eq⟩⟩
    | _ => cases c2
/-- which classes a clause takes -/
def clauseB (K : PySem.W.Frag) (y : Str) (tab : List (Str × Bool)) : Bool := tab.all fun p => He.eqO (PySem.W.nsIn K mainGlobals p.1) (some (some (.ref (He.ga K p.1)))) && decide (PySem.W.exmOne K (.ref (He.ga K p.1)) (.ref (He.ga K y)) = some p.2)
def fieldB (K : PySem.W.Frag) (f : Str) (tab : List (Str × Bool)) : Bool := tab.all fun p => He.eqO (PySem.W.nsIn K mainGlobals p.1) (some (some (.ref (He.ga K p.1)))) && (!p.2 || (xfB K (He.ga K p.1) && decide (PySem.W.findIn K (.ref (He.ga K p.1)) f = some none)))
theorem lookup_in {c : Str} {k : Bool} : ∀ {l : List (Str × Bool)}, l.lookup c = some k → (c, k) ∈ l
  | [], h => by cases h
  | (a, b) :: l, h => by
    by_cases e : c = a
    · subst e
      simp [List.lookup] at h
      subst h
      exact List.mem_cons_self ..
    · have e' : (c == a) = false := by simpa using e
      simp only [List.lookup, e'] at h
      exact List.mem_cons_of_mem _ (lookup_in h)
section
variable {K : PySem.W.Frag} {h : Heap} {mg : Str → Option Value}
theorem clause_ok (X : K.In h) (G : h.Ns mainGlobals mg) {y : Str} {tab : List (Str × Bool)} (c : clauseB K y tab = true) {C0 : Addr} (hy : mg y = some (.ref C0)) (ey : mg y = some (.ref (He.ga K y))) (x : Str) (k : Bool) (C : Addr) (hl : tab.lookup x = some k) (hx : mg x = some (.ref C)) : PySem.W.exmOne K (.ref C) (.ref C0) = some k := by
  obtain ⟨c1, c2⟩ := ba (List.all_eq_true.mp c _ (lookup_in hl))
  have e1 := PySem.W.mg_of X G (He.eqO_ok c1)
  rw [e1] at hx
  cases hx
  rw [ey] at hy
  cases hy
  exact of_decide_eq_true c2
theorem field_ok (X : K.In h) (G : h.Ns mainGlobals mg) {f : Str} {tab : List (Str × Bool)} (c : fieldB K f tab = true) (x : Str) (C : Addr) (hl : tab.lookup x = some true) (hx : mg x = some (.ref C)) : XfC K C ∧ PySem.W.findIn K (.ref C) f = some none := by
  obtain ⟨c1, c2⟩ := ba (List.all_eq_true.mp c _ (lookup_in hl))
  have e1 := PySem.W.mg_of X G (He.eqO_ok c1)
  rw [e1] at hx
  cases hx
  obtain ⟨c3, c4⟩ := ba (show (xfB K (He.ga K x) && decide (PySem.W.findIn K (.ref (He.ga K x)) f = some none)) = true from c2)
  exact ⟨xfB_ok c3, of_decide_eq_true c4⟩
end
/-! ### the Hook -/
def asK (g : Addr → Option Obj) (n : Nat) : List Addr := cStatics :: He.asD g n
abbrev AlK : Type := He.AlD × Bool × List FnI
def obsK (P : Program) (fa : List He.Fa) (fn : List He.DefD) (ind : List InD) (ex : PySem.W.Frag → Bool) (K : PySem.W.Frag) : AlK := (He.obsD fa fn K, (ind.all fun d => d.ok P K) && ex K, ind.map fun d => fnI K d.cls)
def valK (fn : List He.DefD) (ind : List InD) : AlK := (He.valD fn, true, ind.map InD.val)
def SaysK (P : Program) (fa : List He.Fa) (fn : List He.DefD) (ind : List InD) (ex : PySem.W.Frag → Bool) (K : PySem.W.Frag) : Prop := obsK P fa fn ind ex K = valK fn ind
def obsKG (P : Program) (n : Nat) (fa : List He.Fa) (fn : List He.DefD) (ind : List InD) (ex : PySem.W.Frag → Bool) (g : Addr → Option Obj) : AlK := obsK P fa fn ind ex (He.frG g (asK g n))
def hookK (P : Program) (n : Nat) (fa : List He.Fa) (fn : List He.DefD) (ind : List InD) (ex : PySem.W.Frag → Bool) : PySem.W.Hook where
  α := AlK
  obs := fun s => obsKG P n fa fn ind ex s.heap.get?
  val := fun _ => valK fn ind
  says := fun _ h => ∃ K : PySem.W.Frag, K.In h ∧ SaysK P fa fn ind ex K
  of := fun _ _ e => ⟨_, He.frG_in, e⟩
  keeps := fun _ _ _ ⟨K, hK, c⟩ k => ⟨K, PySem.W.Frag.In.keeps hK k, c⟩
theorem obsKG_eq {P : Program} {n : Nat} {fa : List He.Fa} {fn : List He.DefD} {ind : List InD} {ex : PySem.W.Frag → Bool} {g : Addr → Option Obj} {s : Shared} (h : ∀ a, g a = s.heap.get? a) : obsKG P n fa fn ind ex g = (hookK P n fa fn ind ex).obs s := by
  have e : g = s.heap.get? := funext h
  rw [e] <;> rfl
section
variable {P : Program} {fa : List He.Fa} {fn : List He.DefD} {ind : List InD} {ex : PySem.W.Frag → Bool} {K : PySem.W.Frag}
theorem SaysK.d (c : SaysK P fa fn ind ex K) : He.SaysD fa fn K := congrArg (fun z : AlK => z.1) c
theorem SaysK.e (c : SaysK P fa fn ind ex K) : ex K = true := (ba (show ((ind.all fun d => d.ok P K) && ex K) = true from congrArg (fun z : AlK => z.2.1) c)).2
theorem SaysK.i (c : SaysK P fa fn ind ex K) (i : Nat) {d : InD} (h : ind[i]? = some d := by rfl) : SupC P K (He.ga K d.cls) d.par := by
  have c1 := (ba (show ((ind.all fun d => d.ok P K) && ex K) = true from congrArg (fun z : AlK => z.2.1) c)).1
  have e : ind.map (fun d => fnI K d.cls) = ind.map InD.val := congrArg (fun z : AlK => z.2.2) c
  have e2 : (ind.map fun d => fnI K d.cls)[i]? = (ind.map InD.val)[i]? := by rw [e]
  rw [List.getElem?_map, List.getElem?_map, h] at e2
  exact InD.sup (Option.some.inj e2) (List.all_eq_true.mp c1 d (List.mem_of_getElem? h))
end
/-! ### the law's end -/
abbrev CXn : CXT := fun _ _ _ _ _ _ => False
theorem no_out {P : Program} {w : World} {outer : List Env} {H : Hp} {s : Shared} {e : Value} {s' : Shared} (h : L2N.CX P w outer H s (fun _ _ _ => False) e s') : False := by
  obtain ⟨_, _, _, _, _, _, _, _, _, _, _, _, z⟩ := h
  exact z
/-- the promise at the script -/
def spEnd (K : PySem.W.Frag) (mg : Str → Option Value) (κ : BoxKit) (f : PSp) : Sp := fun vs H Q _ => spOf K mg κ 1 f vs H Q fun _ _ _ => False
theorem fn_end {P : Program} {w : World} {K : PySem.W.Frag} {mg : Str → Option Value} {base : Heap} {κ : BoxKit} {k : Nat} {a : Addr} {fd : FuncData} {x : Str} {f : PSp} (F : FnOk P w K mg base (L2N.CX P w) k a fd [x] (spOf K mg κ 1 f)) : FnOk P w K mg base CXn k a fd [x] (spEnd K mg κ f) :=
  ⟨fun vs H Q E h => F.len vs H Q _ h, fun A outer s H args us vs Q E hr he hb hv hs => codeAny_mono (F.run A outer s H args us vs Q (fun _ _ _ => False) hr he hb hv hs) fun r s' hq => by
    cases r with
    | error e => exact no_out hq
    | ok fl => cases fl <;> exact hq⟩
theorem end_ok {K : PySem.W.Frag} {mg : Str → Option Value} {f : PSp} {H : Hp} {a : Addr} {ns : List Int} (hO : Only H) (hS : SqL K H a (ns.map V.int)) (h : f [.scr ns] (fun d _ => d = .bl true) fun _ _ => False) : spEnd K mg boxA f [.ref a] H (fun v _ => v = .bl true) fun _ _ _ => False := by
  refine ⟨rfl, ⟨fun c => c = a ∧ ∃ o, H c = some o, fun _ => False, fun _ => False⟩, [.scr ns], _, _, ⟨fun c z => z.2, fun _ _ z => z, ⟨fun _ z => z.elim, fun _ z => z.elim, fun _ _ _ _ _ z => z.elim⟩⟩, ?_, h, fun d k v R' H' _ _ r q => ?_, fun c fs cls dd R' H' _ _ _ z => z.elim⟩
  · refine .cons ?_ .nil
    unfold Rep
    refine ⟨a, rfl, ?_⟩
    rcases hS with hS | hS
    · refine .inl ⟨hS, rfl, ?_⟩
      rcases hS with e | ⟨o, e⟩
      · exact ⟨_, e⟩
      · exact ⟨_, e⟩
    · exact .inr hS
  · subst q
    exact (r.k [] []).vw.bl
end Kn
namespace Kn
open PySem PySem.Spec L2
def top (i : Nat) : Stmt := PySem.Challenge.pw_keepnothing_k12_whole_rows_picked_out.main.body.getD i (.Pass ⟨0, 0, 0, 0⟩)
abbrev FnP (K : PySem.W.Frag) (x : Str) (i : Nat) (f : Addr) (fd : FuncData) : Prop := FunD K x x (defArgs (top i)) (defBody (top i)) (defScope (top i)) [] [] f fd
def tab_InvalidHistory : List (Str × Bool) := [(("InvalidHistory" : Str), true)]
structure Gx (P : Program) (K : PySem.W.Frag) (mg : Str → Option Value) : Prop where
  b_abs : mg "abs" = none
  b_bool : mg "bool" = none
  b_enumerate : mg "enumerate" = none
  b_int : mg "int" = none
  b_isinstance : mg "isinstance" = none
  b_len : mg "len" = none
  b_list : mg "list" = none
  b_range : mg "range" = none
  b_str : mg "str" = none
  b_super : mg "super" = none
  b_tuple : mg "tuple" = none
  c_MOST_KINDS : ∃ t, mg "MOST_KINDS" = some (.int 6 t)
  c_MOST_VISITS : ∃ t, mg "MOST_VISITS" = some (.int 400 t)
  x_InvalidHistory : ∃ C, mg "InvalidHistory" = some (.ref C) ∧ SupC P K C "at"
  y_InvalidHistory : ∃ C, mg "InvalidHistory" = some (.ref C)
  t_InvalidHistory : ∀ C0, mg "InvalidHistory" = some (.ref C0) → ∀ (c : Str) (k : Bool) (C : Addr), tab_InvalidHistory.lookup c = some k → mg c = some (.ref C) → PySem.W.exmOne K (.ref C) (.ref C0) = some k
  f_InvalidHistory_at : ∀ (c : Str) (C : Addr), tab_InvalidHistory.lookup c = some true → mg c = some (.ref C) → XfC K C ∧ PySem.W.findIn K (.ref C) "at" = some none
/-- what is told of a value, of ints -/
def isI : D → Bool
  | .int _ => true
  | _ => false
def below (d : D) (k : Int) : Bool := match d with
  | .int i => decide (0 ≤ i ∧ i < k)
  | _ => false
def isSq : D → Option (List D)
  | .lst xs => some xs
  | .tup xs => some xs
  | _ => none
def badAt (k : Int) : Nat → List D → D
  | _, [] => .non
  | n, d :: ds => if below d k = true then badAt k (n + 1) ds else .int (n : Int)
def histWrong (h : D) (k : Int) : D := match isSq h with
  | none => .int (-1)
  | some xs => if xs.length > 400 then .int (-1) else badAt k 0 xs
/-- the first places at which a row is found again -/
def earlyF (row : List Int) : List Int → Nat → List Int → List Int
  | [], _, found => found
  | x :: xs, n, found => if row[found.length]? = some x then earlyF row xs (n + 1) (found ++ [(n : Int)]) else earlyF row xs (n + 1) found
def earlyD (row hist : List Int) : D := if (earlyF row hist 0 []).length = row.length then T (earlyF row hist 0 []) else .non
theorem atI_nat {α : Type} {xs : List α} {n : Nat} : atI xs (n : Int) = xs[n]? := by
  unfold L2.atI L2.ixN
  by_cases h : n < xs.length
  · rw [if_pos (by omega), if_pos (by omega)]
    simp
  · rw [if_pos (by omega), if_neg (by omega)]
    simp only [Option.bind_none]
    exact (List.getElem?_eq_none (by omega)).symm
theorem dI_get {xs : List Int} {n : Nat} : (dI xs)[n]? = (xs[n]?).map D.int := by
  unfold dI
  exact List.getElem?_map
theorem dI_app {xs ys : List Int} : dI xs ++ dI ys = dI (xs ++ ys) := by simp [dI]
def cutG {α : Type} (xs : List α) (lo hi : Option Int) : List α := (xs.drop (HT.sIx xs.length 0 lo)).take (HT.sIx xs.length xs.length hi - HT.sIx xs.length 0 lo)
theorem cutD_dI (xs : List Int) (lo hi : Option Int) : cutD (dI xs) lo hi = dI (cutG xs lo hi) := by
  unfold cutD cutG dI
  rw [List.length_map, List.map_take, List.map_drop]
theorem cutG_len {α : Type} (xs : List α) (lo hi : Option Int) : (cutG xs lo hi).length ≤ xs.length := by
  unfold cutG
  rw [List.length_take, List.length_drop]
  omega
theorem cutG_mem {α : Type} {xs : List α} {lo hi : Option Int} {x : α} (h : x ∈ cutG xs lo hi) : x ∈ xs := List.mem_of_mem_drop (List.mem_of_mem_take h)

/-! ### is_integer -/
theorem sc_is_integer : FnScope ["value"] ["value"] (defScope (top 4)) := ⟨rfl, rfl, rfl, by decide +kernel, rfl, by decide +kernel, by decide +kernel⟩
def w_is_integer : WS := (wRet (wAndV (wIsi ["int"] (wVar 0)) (wNotV (wIsi ["bool"] (wVar 0)))))
def q_is_integer : PSp := specOf 1 w_is_integer
def p_is_integer : PSp := fun ds Q _ => ∃ d, ds = [d] ∧ plain d = true ∧ Q (.bl (isI d)) .frz
theorem imp_is_integer (ds : List D) (Q : QD) (E : XD) (h : p_is_integer ds Q E) : q_is_integer ds Q E := by
  obtain ⟨d, rfl, hp, q⟩ := h
  cases d <;> simp [plain] at hp <;> simp [q_is_integer, w_is_integer] <;> simpa [isI] using q
theorem fn_is_integer {P : Program} {wd : World} {K : PySem.W.Frag} {mg : Str → Option Value} {base : Heap} {f : Addr} {fd : FuncData} (G : Gx P K mg) (F : FnP K "is_integer" 4 f fd) (m : mg "is_integer" = some (.ref f)) : FnAt P wd K mg base boxA 1 "is_integer" 1 p_is_integer := by
  have sc := sc_is_integer
  exact (FnAt.of F m (fn_body (k := 0) (N := ["value"]) (ps := ["value"]) (w := w_is_integer) F sc (fun cdv A outer s H E R0 hr tk pw => (sss_one (ss_ret (se_and (se_isi (se_pv 0) rfl G.b_isinstance rfl G.b_int bt_int) (se_one (se_not (se_isi (se_pv 0) rfl G.b_isinstance rfl G.b_bool bt_bool)))))))) (fun _ _ _ _ _ _ us hl => match us, hl with | [_], _ => rfl)).imp (fun ds Q E h => imp_is_integer ds Q E h)
/-! ### is_below -/
theorem sc_is_below : FnScope ["value", "limit"] ["value", "limit"] (defScope (top 5)) := ⟨rfl, rfl, rfl, by decide +kernel, rfl, by decide +kernel, by decide +kernel⟩
def w_is_below : WS := (wRet (wAndV (wCall 1 p_is_integer (wCons (wVar 0) wNil)) (wChain gLe gLt (wLit (.int 0)) (wVar 0) (wVar 1))))
def q_is_below : PSp := specOf 2 w_is_below
def p_is_below : PSp := fun ds Q _ => ∃ d k, ds = [d, .int k] ∧ plain d = true ∧ Q (.bl (below d k)) .frz
theorem imp_is_below (ds : List D) (Q : QD) (E : XD) (h : p_is_below ds Q E) : q_is_below ds Q E := by
  obtain ⟨d, k, rfl, hp, q⟩ := h
  simp [q_is_below, w_is_below]
  refine ⟨d, rfl, hp, ?_⟩
  cases d <;> simp [isI, below] at q ⊢ <;> try exact q
  rename_i i
  by_cases h1 : 0 ≤ i <;> simp [h1] at q ⊢ <;> exact q
theorem fn_is_below {P : Program} {wd : World} {K : PySem.W.Frag} {mg : Str → Option Value} {base : Heap} {f : Addr} {fd : FuncData} (G : Gx P K mg) (c_is_integer : FnAt P wd K mg base boxA 1 "is_integer" 1 p_is_integer) (F : FnP K "is_below" 5 f fd) (m : mg "is_below" = some (.ref f)) : FnAt P wd K mg base boxA 2 "is_below" 2 p_is_below := by
  have sc := sc_is_below
  exact (FnAt.of F m (fn_body (k := 1) (N := ["value", "limit"]) (ps := ["value", "limit"]) (w := w_is_below) F sc (fun cdv A outer s H E R0 hr tk pw => (sss_one (ss_ret (se_and (se_call c_is_integer (hr.mono (by decide)) tk rfl (sa_cons (se_pv 0) sa_nil)) (se_one (se_chain op_le bLe op_lt bLt se_int (se_pv 0) (se_pv 1)))))))) (fun _ _ _ _ _ _ us hl => match us, hl with | [_, _], _ => rfl)).imp (fun ds Q E h => imp_is_below ds Q E h)
/-! ### is_sequence -/
theorem sc_is_sequence : FnScope ["value"] ["value"] (defScope (top 6)) := ⟨rfl, rfl, rfl, by decide +kernel, rfl, by decide +kernel, by decide +kernel⟩
def w_is_sequence : WS := (wRet (wIsi ["list", "tuple"] (wVar 0)))
def q_is_sequence : PSp := specOf 1 w_is_sequence
def p_is_sequence : PSp := fun ds Q _ => ∃ d, ds = [d] ∧ plain d = true ∧ Q (.bl (isSq d).isSome) .frz
theorem imp_is_sequence (ds : List D) (Q : QD) (E : XD) (h : p_is_sequence ds Q E) : q_is_sequence ds Q E := by
  obtain ⟨d, rfl, hp, q⟩ := h
  cases d <;> simp [plain] at hp <;> simp [q_is_sequence, w_is_sequence] <;> simpa [isSq] using q
theorem fn_is_sequence {P : Program} {wd : World} {K : PySem.W.Frag} {mg : Str → Option Value} {base : Heap} {f : Addr} {fd : FuncData} (G : Gx P K mg) (F : FnP K "is_sequence" 6 f fd) (m : mg "is_sequence" = some (.ref f)) : FnAt P wd K mg base boxA 1 "is_sequence" 1 p_is_sequence := by
  have sc := sc_is_sequence
  exact (FnAt.of F m (fn_body (k := 0) (N := ["value"]) (ps := ["value"]) (w := w_is_sequence) F sc (fun cdv A outer s H E R0 hr tk pw => (sss_one (ss_ret (se_isiT (se_pv 0) rfl G.b_isinstance (sty_cons rfl G.b_list bt_list (sty_cons rfl G.b_tuple bt_tuple sty_nil))))))) (fun _ _ _ _ _ _ us hl => match us, hl with | [_], _ => rfl)).imp (fun ds Q E h => imp_is_sequence ds Q E h)
/-! ### history_wrong -/
theorem sc_history_wrong : FnScope ["history", "kinds", "at", "kind"] ["history", "kinds"] (defScope (top 10)) := ⟨rfl, rfl, rfl, by decide +kernel, rfl, by decide +kernel, by decide +kernel⟩
def g1_history_wrong : WG := (gT 2 (gsCons (gN 2) (gsCons (gN 3) gsNil)))
def b1_history_wrong : WS := (wIfS (wNotT (wTru (wCall 2 p_is_below (wCons (wVar 3) (wCons (wVar 1) wNil))))) (wRet (wVar 2)) wNext)
def w_history_wrong : WS := (wSeq (wIfS (wOrT (wNotT (wTru (wCall 1 p_is_sequence (wCons (wVar 0) wNil)))) (wTst (wBin gGt (wBlt fLen (wCons (wVar 0) wNil)) (wLit (.int 400))))) (wRet (wUn fNeg (wLit (.int 1)))) wNext) (wSeq (wFor (iEnumA (wVar 0)) g1_history_wrong b1_history_wrong) (wRet (wLit .non))))
def q_history_wrong : PSp := specOf 4 w_history_wrong
theorem loop_hw (k : Int) (h : D) : ∀ (ds : List D) (n : Nat) (s2 s3 : Slot) (De : EndD), plainL ds = true →
    (∀ env, badAt k n ds = .non → De.nx env) → (∀ (i : Int) env, badAt k n ds = .int i → De.rt (.int i) .frz env) →
    wLoop g1_history_wrong b1_history_wrong De (enumF n ds) [.val h, .val (.int k), s2, s3]
  | [], n, s2, s3, De, hp, h1, h2 => h1 _ rfl
  | d :: ds, n, s2, s3, De, hp, h1, h2 => by
    unfold plainL at hp
    rw [Bool.and_eq_true] at hp
    have ih := fun s2 s3 => loop_hw k h ds (n + 1) s2 s3 De hp.2
    unfold badAt at h1 h2
    simp [enumF, g1_history_wrong, b1_history_wrong] at ih ⊢
    refine ⟨d, k, rfl, hp.1, ?_⟩
    cases hb : below d k with
    | true =>
      rw [hb] at h1 h2
      simp at h1 h2 ⊢
      exact ih _ _ h1 h2
    | false =>
      rw [hb] at h1 h2
      simp at h1 h2 ⊢
      exact h2 _ _ rfl
def p_history_wrong : PSp := fun ds Q _ => ∃ h k, ds = [h, .int k] ∧ plain h = true ∧ Q (histWrong h k) .frz
theorem sq_plain {d : D} {xs : List D} (e : isSq d = some xs) (hp : plain d = true) : plainL xs = true := by
  cases d <;> simp [isSq] at e <;> subst e <;> simpa [plain] using hp
theorem imp_history_wrong (ds : List D) (Q : QD) (E : XD) (h : p_history_wrong ds Q E) : q_history_wrong ds Q E := by
  obtain ⟨d, k, rfl, hp, q⟩ := h
  simp [q_history_wrong, w_history_wrong, -wLoop]
  refine ⟨d, rfl, hp, ?_⟩
  unfold histWrong at q
  cases e : isSq d with
  | none =>
    rw [e] at q
    simpa using q
  | some xs =>
    rw [e] at q
    have hpl := sq_plain e hp
    cases d <;> simp [isSq] at e <;> subst e <;> simp [-wLoop, enumD_eq] at q ⊢
    all_goals
      rename_i xs
      by_cases hl : 400 < xs.length
      · rw [if_pos hl] at q
        rw [if_pos (by omega)]
        exact q
      · rw [if_neg hl] at q
        rw [if_neg (by omega)]
        exact loop_hw k _ xs 0 _ _ _ hpl (fun _ e => by rw [e] at q; simpa using q) (fun i _ e => by rw [e] at q; exact q)
theorem fn_history_wrong {P : Program} {wd : World} {K : PySem.W.Frag} {mg : Str → Option Value} {base : Heap} {f : Addr} {fd : FuncData} (G : Gx P K mg) (c_is_below : FnAt P wd K mg base boxA 2 "is_below" 2 p_is_below) (c_is_sequence : FnAt P wd K mg base boxA 1 "is_sequence" 1 p_is_sequence) (F : FnP K "history_wrong" 10 f fd) (m : mg "history_wrong" = some (.ref f)) : FnAt P wd K mg base boxA 3 "history_wrong" 2 p_history_wrong := by
  have sc := sc_history_wrong
  exact (FnAt.of F m (fn_body (k := 2) (N := ["history", "kinds", "at", "kind"]) (ps := ["history", "kinds"]) (w := w_history_wrong) F sc (fun cdv A outer s H E R0 hr tk pw => (sss_cons (ss_if (st_bool (sw_or (st_not (st_tru (se_call c_is_sequence (hr.mono (by decide)) tk rfl (sa_cons (se_pv 0) sa_nil)))) (sw_one (st_cmp op_gt bGt (se_callB call_len bltLen rfl G.b_len bt_len (sa_cons (se_pv 0) sa_nil)) (se_globI rfl G.c_MOST_VISITS) rfl)))) (sss_one (ss_ret (se_un un_neg uNeg se_int))) sss_nil) (sss_cons (ss_for (ts := [2, 3]) pw rfl (si_enum rfl G.b_enumerate (se_pv 0)) (sg_tup rfl (sgs_cons (sg_name sc.nd) (sgs_cons (sg_name sc.nd) sgs_nil))) (sss_one (ss_if (st_not (st_tru (se_call c_is_below (hr.mono (by decide)) tk rfl (sa_cons (se_pv 3) (sa_cons (se_pv 1) sa_nil))))) (sss_one (ss_ret (se_pv 2))) sss_nil))) (sss_one (ss_ret se_non)))))) (fun _ _ _ _ _ _ us hl => match us, hl with | [_, _], _ => rfl)).imp (fun ds Q E h => imp_history_wrong ds Q E h)
/-! ### need_rows -/
theorem sc_need_rows : FnScope ["kinds", "rows", "at", "history"] ["kinds", "rows"] (defScope (top 11)) := ⟨rfl, rfl, rfl, by decide +kernel, rfl, by decide +kernel, by decide +kernel⟩
def g1_need_rows : WG := (gT 2 (gsCons (gN 2) (gsCons (gN 3) gsNil)))
def b1_need_rows : WS := (wIfS (wTst (wBin (gIs true) (wCall 2 p_history_wrong (wCons (wVar 3) (wCons (wVar 0) wNil))) (wLit .non))) (wRaise "InvalidHistory" "at" (wCons (wVar 2) wNil)) wNext)
def g2_need_rows : WG := (gN 3)
def c1_need_rows : WB := wYes
def e1_need_rows : WE := (wBlt fTuple (wCons (wVar 3) wNil))
def w_need_rows : WS := (wSeq (wFor (iEnumA (wVar 1)) g1_need_rows b1_need_rows) (wRet (wLc [3] (iSeq (wVar 1)) g2_need_rows c1_need_rows e1_need_rows)))
def q_need_rows : PSp := specOf 4 w_need_rows
def needBad (k : Int) : Nat → List D → Option Nat
  | _, [] => none
  | n, d :: ds => if isNon (histWrong d k) = true then needBad k (n + 1) ds else some n
def tupOf (d : D) : D := match isSq d with
  | some xs => .tup xs
  | none => .non
theorem hw_kinds (d : D) (k : Int) : histWrong d k = .non ∨ ∃ i, histWrong d k = .int i := by
  unfold histWrong
  split
  · exact .inr ⟨_, rfl⟩
  · split
    · exact .inr ⟨_, rfl⟩
    · rename_i xs _ _
      have : ∀ (ds : List D) (n : Nat), badAt k n ds = .non ∨ ∃ i, badAt k n ds = .int i := by
        intro ds
        induction ds with
        | nil => exact fun n => .inl rfl
        | cons d ds ih =>
          intro n
          unfold badAt
          split
          · exact ih _
          · exact .inr ⟨_, rfl⟩
      exact this xs 0
theorem loop_nr (k : Int) (h : D) : ∀ (ds : List D) (n : Nat) (s2 s3 : Slot) (De : EndD), plainL ds = true →
    (∀ s2 s3, needBad k n ds = none → De.nx [.val (.int k), .val h, s2, s3]) → (∀ (i : Nat) env, needBad k n ds = some i → De.ex "InvalidHistory" [("at", .int i)] env) →
    wLoop g1_need_rows b1_need_rows De (enumF n ds) [.val (.int k), .val h, s2, s3]
  | [], n, s2, s3, De, hp, h1, h2 => h1 _ _ rfl
  | d :: ds, n, s2, s3, De, hp, h1, h2 => by
    unfold plainL at hp
    rw [Bool.and_eq_true] at hp
    have ih := fun s2 s3 => loop_nr k h ds (n + 1) s2 s3 De hp.2
    unfold needBad at h1 h2
    simp [enumF, g1_need_rows, b1_need_rows] at ih ⊢
    refine ⟨d, k, rfl, hp.1, ?_⟩
    rcases hw_kinds d k with e | ⟨i, e⟩
    · rw [e] at h1 h2 ⊢
      simp [gIs] at h1 h2 ⊢
      exact ih _ _ h1 h2
    · rw [e] at h1 h2 ⊢
      simp [gIs] at h1 h2 ⊢
      exact h2 _ _ rfl
theorem loop_nr2 (Q : QD) (env : Sls) : ∀ (ds acc : List D), (∀ d ∈ ds, (isSq d).isSome = true) → acc.length + ds.length ≤ sizeLine → env.length = 4 → Q (.lst (acc ++ ds.map tupOf)) .own → lcLoop [3] g2_need_rows c1_need_rows e1_need_rows Q env ds acc
  | [], acc, hs, hl, he, q => by simpa using q
  | d :: ds, acc, hs, hl, he, q => by
    have ih := loop_nr2 Q env ds (acc ++ [tupOf d]) (fun e h => hs e (List.mem_cons_of_mem _ h)) (by simp at hl ⊢; omega) he (by simpa using q)
    have hd := hs d (List.mem_cons_self ..)
    obtain ⟨a, b, c, d4, rfl⟩ : ∃ a b c d4, env = [a, b, c, d4] := by
      match env, he with
      | [a, b, c, d4], _ => exact ⟨a, b, c, d4, rfl⟩
    simp [g2_need_rows, c1_need_rows, e1_need_rows] at ih ⊢
    cases d <;> simp [isSq] at hd
    all_goals
      simp at hl ⊢
      refine ⟨by omega, ?_⟩
      simpa [tupOf, isSq] using ih
def p_need_rows : PSp := fun ds Q E => ∃ k rows, ds = [.int k, .lst rows] ∧ plainL rows = true ∧ rows.length ≤ 1000 ∧ (∀ i, needBad k 0 rows = some i → E "InvalidHistory" [("at", .int (i : Nat))]) ∧
  (needBad k 0 rows = none → Q (.lst (rows.map tupOf)) .own)
theorem needBad_none {k : Int} : ∀ {ds : List D} {n : Nat}, needBad k n ds = none → ∀ d ∈ ds, histWrong d k = .non
  | [], _, _, d, h => by cases h
  | e :: ds, n, h, d, hd => by
    unfold needBad at h
    split at h
    · rename_i hn
      rcases List.mem_cons.mp hd with rfl | hd
      · rcases hw_kinds d k with z | ⟨i, z⟩
        · exact z
        · rw [z] at hn
          simp at hn
      · exact needBad_none h d hd
    · cases h
theorem hw_sq {d : D} {k : Int} (h : histWrong d k = .non) : (isSq d).isSome = true := by
  unfold histWrong at h
  cases e : isSq d with
  | none =>
    rw [e] at h
    cases h
  | some xs => rfl
theorem imp_need_rows (ds : List D) (Q : QD) (E : XD) (h : p_need_rows ds Q E) : q_need_rows ds Q E := by
  obtain ⟨k, rows, rfl, hp, hl, q1, q2⟩ := h
  simp [q_need_rows, w_need_rows, -wLoop, -lcLoop, enumD_eq]
  refine loop_nr k _ rows 0 _ _ _ hp (fun s2 s3 e => ?_) (fun i env e => q1 i e)
  simp [-lcLoop]
  refine loop_nr2 _ _ rows [] (fun d hd => hw_sq (needBad_none e d hd)) (by rw [sizeLine_eq]; simp; omega) rfl ?_
  simpa using q2 e
theorem fn_need_rows {P : Program} {wd : World} {K : PySem.W.Frag} {mg : Str → Option Value} {base : Heap} {f : Addr} {fd : FuncData} (G : Gx P K mg) (c_history_wrong : FnAt P wd K mg base boxA 3 "history_wrong" 2 p_history_wrong) (F : FnP K "need_rows" 11 f fd) (m : mg "need_rows" = some (.ref f)) : FnAt P wd K mg base boxA 4 "need_rows" 2 p_need_rows := by
  have sc := sc_need_rows
  obtain ⟨C_InvalidHistory, x_InvalidHistory⟩ := G.x_InvalidHistory
  exact (FnAt.of F m (fn_body (k := 3) (N := ["kinds", "rows", "at", "history"]) (ps := ["kinds", "rows"]) (w := w_need_rows) F sc (fun cdv A outer s H E R0 hr tk pw => (sss_cons (ss_for (ts := [2, 3]) pw rfl (si_enum rfl G.b_enumerate (se_pv 1)) (sg_tup rfl (sgs_cons (sg_name sc.nd) (sgs_cons (sg_name sc.nd) sgs_nil))) (sss_one (ss_if (st_cmp op_notN bIsNot (se_call c_history_wrong (hr.mono (by decide)) tk rfl (sa_cons (se_pv 3) (sa_cons (se_pv 0) sa_nil))) se_non rfl) (sss_one (ss_raise (par := "at") x_InvalidHistory.2 rfl (hr.mono (by decide)) tk G.b_super rfl x_InvalidHistory.1 (sa_cons (se_pv 2) sa_nil))) sss_nil))) (sss_one (ss_ret (se_lc rfl sc.nd (own := [(("history" : Str), 3)]) (ts := [3]) (si_seq (se_pv 1)) (blk_ok (N := ["kinds", "rows", "at", "history"]) (sc := defScope (top 11)) (by decide +kernel)) (fun _ _ _ _ _ => (sg_name sc.nd)) (fun _ _ _ _ _ => sts_nil) (fun _ _ _ _ _ => (se_callTy call_tuple_of bltTuple rfl G.b_tuple bt_tuple (sa_cons (se_pv 3) sa_nil))))))))) (fun _ _ _ _ _ _ us hl => match us, hl with | [_, _], _ => rfl)).imp (fun ds Q E h => imp_need_rows ds Q E h)
/-! ### early_places -/
theorem sc_early_places : FnScope ["row", "history", "found", "at", "kind"] ["row", "history"] (defScope (top 13)) := ⟨rfl, rfl, rfl, by decide +kernel, rfl, by decide +kernel, by decide +kernel⟩
def g1_early_places : WG := (gT 2 (gsCons (gN 3) (gsCons (gN 4) gsNil)))
def b1_early_places : WS := (wIfS (wAndT (wTst (wBin gLt (wBlt fLen (wCons (wVar 2) wNil)) (wBlt fLen (wCons (wVar 0) wNil)))) (wTst (wBin (fEqD false) (wBin fIx (wVar 0) (wBlt fLen (wCons (wVar 2) wNil))) (wVar 4)))) (wApp 2 (wVar 3)) wNext)
def w_early_places : WS := (wSeq (wSet 2 (wLst wNil)) (wSeq (wFor (iEnumA (wVar 1)) g1_early_places b1_early_places) (wRet (wIf (wTst (wBin (fEqD false) (wBlt fLen (wCons (wVar 2) wNil)) (wBlt fLen (wCons (wVar 0) wNil)))) (wBlt fTuple (wCons (wVar 2) wNil)) (wLit .non)))))
def q_early_places : PSp := specOf 5 w_early_places
theorem loop_ep (row : List Int) (h : D) : ∀ (xs : List Int) (n : Nat) (found : List Int) (s3 s4 : Slot) (De : EndD), found.length + xs.length < 100000 →
    (∀ s3 s4, De.nx [.val (T row), .val h, .own (L (earlyF row xs n found)), s3, s4]) →
    wLoop g1_early_places b1_early_places De (enumF n (dI xs)) [.val (T row), .val h, .own (L found), s3, s4]
  | [], n, found, s3, s4, De, hl, h1 => h1 _ _
  | x :: xs, n, found, s3, s4, De, hl, h1 => by
    have ih := fun fo (hf : fo.length ≤ found.length + 1) s3 s4 hh => loop_ep row h xs (n + 1) fo s3 s4 De (by simp at hl; omega) hh
    unfold earlyF at h1
    simp [enumF, dI, g1_early_places, b1_early_places, T, L] at ih h1 ⊢
    by_cases hf : found.length < row.length
    · have hg : row[found.length]? = some row[found.length] := List.getElem?_eq_getElem hf
      simp [hf, atI_nat, hg] at h1 ⊢
      by_cases hx : row[found.length] = x
      · simp [hx] at h1 ⊢
        refine ⟨by omega, ?_⟩
        have z := ih (found ++ [(n : Int)]) (by simp)
        simp at z
        exact z _ _ h1
      · simp [hx] at h1 ⊢
        exact ih found (by omega) _ _ h1
    · have hg : row[found.length]? = none := List.getElem?_eq_none (by omega)
      simp [hf, hg] at h1 ⊢
      exact ih found (by omega) _ _ h1
def p_early_places : PSp := fun ds Q _ => ∃ row hist : List Int, ds = [T row, T hist] ∧ hist.length ≤ 1000 ∧ Q (earlyD row hist) .frz
theorem imp_early_places (ds : List D) (Q : QD) (E : XD) (h : p_early_places ds Q E) : q_early_places ds Q E := by
  obtain ⟨row, hist, rfl, hl, q⟩ := h
  simp [q_early_places, w_early_places, enumD_eq, T]
  have z := loop_ep row (T hist) hist 0 [] .un .un
  simp [T, L, dI] at z
  refine z _ (by omega) fun s3 s4 => ?_
  unfold earlyD at q
  by_cases he : (earlyF row hist 0 []).length = row.length
  · simp [he, T, dI] at q ⊢
    exact q
  · simp [he] at q ⊢
    have he' : ¬ ((earlyF row hist 0 []).length : Int) = (row.length : Int) := by omega
    simp [he'] at q ⊢
    exact q
theorem fn_early_places {P : Program} {wd : World} {K : PySem.W.Frag} {mg : Str → Option Value} {base : Heap} {f : Addr} {fd : FuncData} (G : Gx P K mg) (F : FnP K "early_places" 13 f fd) (m : mg "early_places" = some (.ref f)) : FnAt P wd K mg base boxA 1 "early_places" 2 p_early_places := by
  have sc := sc_early_places
  exact (FnAt.of F m (fn_body (k := 0) (N := ["row", "history", "found", "at", "kind"]) (ps := ["row", "history"]) (w := w_early_places) F sc (fun cdv A outer s H E R0 hr tk pw => (sss_cons (ss_set (i := 2) sc.nd (se_lst sa_nil)) (sss_cons (ss_for (ts := [3, 4]) pw rfl (si_enum rfl G.b_enumerate (se_pv 1)) (sg_tup rfl (sgs_cons (sg_name sc.nd) (sgs_cons (sg_name sc.nd) sgs_nil))) (sss_one (ss_if (st_bool (sw_and (st_cmp op_lt bLt (se_callB call_len bltLen rfl G.b_len bt_len (sa_cons (se_pv 2) sa_nil)) (se_callB call_len bltLen rfl G.b_len bt_len (sa_cons (se_pv 0) sa_nil)) rfl) (sw_one (st_cmp (op_eqD hr.units) bEq (se_ix ix_seq bIx (se_pv 0) (se_callB call_len bltLen rfl G.b_len bt_len (sa_cons (se_pv 2) sa_nil)) fun _ _ => rfl) (se_pv 4) rfl)))) (sss_one (ss_app (pe_bm PySem.F.plainAttrs_list PySem.F.slot_list_append PySem.F.type_list_append mt_append (pv 2) (pa_cons (se_pv 3) pa_nil)))) sss_nil))) (sss_one (ss_ret (se_if (st_cmp (op_eqD hr.units) bEq (se_callB call_len bltLen rfl G.b_len bt_len (sa_cons (se_pv 2) sa_nil)) (se_callB call_len bltLen rfl G.b_len bt_len (sa_cons (se_pv 0) sa_nil)) rfl) (se_callTy call_tuple_of bltTuple rfl G.b_tuple bt_tuple (sa_cons (se_pv 2) sa_nil)) se_non))))))) (fun _ _ _ _ _ _ us hl => match us, hl with | [_, _], _ => rfl)).imp (fun ds Q E h => imp_early_places ds Q E h)
/-! ### picked -/
theorem sc_picked : FnScope ["row", "history"] ["row", "history"] (defScope (top 14)) := ⟨rfl, rfl, rfl, by decide +kernel, rfl, by decide +kernel, by decide +kernel⟩
def w_picked : WS := (wSeq (wFrz [0, 1] (wAsg (wCall 2 p_need_rows (wCons (wLit (.int 6)) (wCons (wLst (wCons (wVar 0) (wCons (wVar 1) wNil))) wNil))) (gL 2 (gsCons (gN 0) (gsCons (gN 1) gsNil))))) (wFrz [0, 1] (wRet (wCall 2 p_early_places (wCons (wVar 0) (wCons (wVar 1) wNil))))))
def q_picked : PSp := specOf 2 w_picked
theorem below_int {d : D} {k : Int} (h : below d k = true) : ∃ i, d = .int i ∧ 0 ≤ i ∧ i < k := by
  cases d <;> simp [below] at h
  exact ⟨_, rfl, h.1, h.2⟩
theorem badAt_ints {k : Int} : ∀ {ds : List D} {n : Nat}, badAt k n ds = .non → ∃ xs : List Int, ds = dI xs ∧ ∀ x ∈ xs, 0 ≤ x ∧ x < k
  | [], _, _ => ⟨[], rfl, fun x h => by cases h⟩
  | d :: ds, n, h => by
    unfold badAt at h
    split at h
    · rename_i hb
      obtain ⟨i, rfl, h1, h2⟩ := below_int hb
      obtain ⟨xs, rfl, h3⟩ := badAt_ints h
      exact ⟨i :: xs, rfl, fun x hx => (List.mem_cons.mp hx).elim (fun e => by rw [e]; exact ⟨h1, h2⟩) (h3 x)⟩
    · cases h
theorem hw_ints {d : D} {k : Int} (h : histWrong d k = .non) : ∃ xs : List Int, isSq d = some (dI xs) ∧ xs.length ≤ 400 ∧ ∀ x ∈ xs, 0 ≤ x ∧ x < k := by
  unfold histWrong at h
  split at h
  · cases h
  · rename_i ys e
    split at h
    · cases h
    · rename_i hl
      obtain ⟨xs, rfl, h3⟩ := badAt_ints h
      exact ⟨xs, e, by simp at hl; omega, h3⟩
def p_picked : PSp := fun ds Q E => ∃ a b, ds = [a, b] ∧ plain a = true ∧ plain b = true ∧ (isNon (histWrong a 6) = false → E "InvalidHistory" [("at", .int 0)]) ∧
  (isNon (histWrong a 6) = true → isNon (histWrong b 6) = false → E "InvalidHistory" [("at", .int 1)]) ∧
  (∀ xs ys : List Int, histWrong a 6 = .non → histWrong b 6 = .non → isSq a = some (dI xs) → isSq b = some (dI ys) → xs.length ≤ 400 → ys.length ≤ 400 → Q (earlyD xs ys) .frz)
theorem imp_picked (ds : List D) (Q : QD) (E : XD) (h : p_picked ds Q E) : q_picked ds Q E := by
  obtain ⟨a, b, rfl, ha, hb, q1, q2, q3⟩ := h
  simp [q_picked, w_picked]
  refine ⟨6, [a, b], rfl, by simp [plainL, ha, hb], by simp, fun i hi => ?_, fun hn => ?_⟩
  · unfold needBad at hi
    cases h1 : isNon (histWrong a 6) with
    | false =>
      simp [h1] at hi
      subst hi
      exact q1 h1
    | true =>
      simp [h1] at hi
      unfold needBad at hi
      cases h2 : isNon (histWrong b 6) with
      | false =>
        simp [h2] at hi
        subst hi
        exact q2 h1 h2
      | true =>
        simp [h2, needBad] at hi
  · have na := needBad_none hn a (by simp)
    have nb := needBad_none hn b (by simp)
    obtain ⟨xs, e1, l1, _⟩ := hw_ints na
    obtain ⟨ys, e2, l2, _⟩ := hw_ints nb
    simp [tupOf, e1, e2]
    exact ⟨xs, ys, rfl, by omega, q3 xs ys na nb e1 e2 l1 l2⟩
theorem fn_picked {P : Program} {wd : World} {K : PySem.W.Frag} {mg : Str → Option Value} {base : Heap} {f : Addr} {fd : FuncData} (G : Gx P K mg) (c_need_rows : FnAt P wd K mg base boxA 4 "need_rows" 2 p_need_rows) (c_early_places : FnAt P wd K mg base boxA 1 "early_places" 2 p_early_places) (F : FnP K "picked" 14 f fd) (m : mg "picked" = some (.ref f)) : FnAt P wd K mg base boxA 5 "picked" 2 p_picked := by
  have sc := sc_picked
  exact (FnAt.of F m (fn_body (k := 4) (N := ["row", "history"]) (ps := ["row", "history"]) (w := w_picked) F sc (fun cdv A outer s H E R0 hr tk pw => (sss_cons (ss_frz [0, 1] (ss_asg (ts := [0, 1]) (se_call c_need_rows (hr.mono (by decide)) tk rfl (sa_cons (se_globI rfl G.c_MOST_KINDS) (sa_cons (se_lst (sa_cons (se_pv 0) (sa_cons (se_pv 1) sa_nil))) sa_nil))) (sg_lst rfl (sgs_cons (sg_name sc.nd) (sgs_cons (sg_name sc.nd) sgs_nil))))) (sss_one (ss_frz [0, 1] (ss_ret (se_call c_early_places (hr.mono (by decide)) tk rfl (sa_cons (se_pv 0) (sa_cons (se_pv 1) sa_nil))))))))) (fun _ _ _ _ _ _ us hl => match us, hl with | [_, _], _ => rfl)).imp (fun ds Q E h => imp_picked ds Q E h)
/-! ### _law_box -/
theorem sc_ulaw_box : FnScope ["script", "cells", "blend", "cell"] ["script"] (defScope (top 16)) := ⟨rfl, rfl, rfl, by decide +kernel, rfl, by decide +kernel, by decide +kernel⟩
def g1_ulaw_box : WG := (gN 3)
def c1_ulaw_box : WB := wYes
def e1_ulaw_box : WE := (wBlt fAbs (wCons (wBlt fInt (wCons (wVar 3) wNil)) wNil))
def g2_ulaw_box : WG := (gN 3)
def b1_ulaw_box : WS := (wSet 2 (wBin gMod (wBlt fInt (wCons (wBin fAdd (wBin fAdd (wBin fMul (wVar 2) (wLit (.int 16807))) (wBin gMod (wBlt fInt (wCons (wVar 3) wNil)) (wLit (.int 2147483563)))) (wLit (.int 61))) wNil)) (wLit (.int 2147483647))))
def g3_ulaw_box : WG := (gN 3)
def c2_ulaw_box : WB := (wTst (wBin gGe (wVar 3) (wBin gPow (wLit (.int 10)) (wLit (.int 18)))))
def e2_ulaw_box : WE := (wVar 3)
def w_ulaw_box : WS := (wSeq (wSet 1 (wLc [3] (iSeq (wSl (wVar 0) oNone (oSome (wLit (.int 60))))) g1_ulaw_box c1_ulaw_box e1_ulaw_box)) (wSeq (wSet 2 (wLit (.int 77029))) (wSeq (wFrz [1] (wFor (iSeq (wVar 1)) g2_ulaw_box b1_ulaw_box)) (wFrz [1, 2] (wRet (wMkBox (wLc [3] (iSeq (wVar 1)) g3_ulaw_box c2_ulaw_box e2_ulaw_box) (wVar 2)))))))
def q_ulaw_box : PSp := specOf 4 w_ulaw_box
theorem mulR {i j : Int} (h1 : -(2 ^ 64) < j) (h2 : j < 2 ^ 64) : IntMulOk i j := .of_right (intBits_le_64 h1 h2)
theorem powOk {i j : Int} (h1 : 0 ≤ j) (h2 : j ≤ 1000) (h3 : i.natAbs < 2 ^ 64) : CPow i j := ⟨h1, by omega, h3⟩
theorem divOk {i j : Int} (h0 : 0 < j) (h1 : j < 2 ^ 60) : CDivW i j := wide_div (b := 60) h0 (by omega) (by decide) (by decide)
theorem loop_bx (Q : Sls → Prop) (s0 s1 : Slot) : ∀ (xs : List Int) (b : Int) (s3 : Slot) (De : EndD), (∀ b s3, De.nx [s0, s1, .val (.int b), s3]) → wLoop g2_ulaw_box b1_ulaw_box De (dI xs) [s0, s1, .val (.int b), s3]
  | [], b, s3, De, h => h _ _
  | x :: xs, b, s3, De, h => by
    have ih := fun b s3 => loop_bx Q s0 s1 xs b s3 De h
    simp [dI, g2_ulaw_box, b1_ulaw_box] at ih ⊢
    exact ⟨mulR (by omega) (by omega), ih _ _⟩
theorem lc_bx (Q : QD) (env : Sls) : ∀ (xs acc : List Int), acc.length + xs.length ≤ 1000 → env.length = 4 → (∀ ys : List Int, ys.length ≤ 1000 → Q (L ys) .own) → lcLoop [3] g1_ulaw_box c1_ulaw_box e1_ulaw_box Q env (dI xs) (dI acc)
  | [], acc, hl, he, q => q acc (by simpa using hl)
  | x :: xs, acc, hl, he, q => by
    obtain ⟨a, b, c, d4, rfl⟩ : ∃ a b c d4, env = [a, b, c, d4] := by
      match env, he with
      | [a, b, c, d4], _ => exact ⟨a, b, c, d4, rfl⟩
    have ih := fun y => lc_bx Q [a, b, c, d4] xs (acc ++ [y]) (by simp at hl ⊢; omega) he q
    simp [dI, g1_ulaw_box, c1_ulaw_box, e1_ulaw_box] at ih hl ⊢
    exact ⟨by omega, ih _⟩
theorem lc_bx2 (Q : QD) (env : Sls) : ∀ (xs acc : List Int), acc.length + xs.length ≤ 1000 → env.length = 4 → (∀ ys : List Int, ys.length ≤ 1000 → Q (L ys) .own) → lcLoop [3] g3_ulaw_box c2_ulaw_box e2_ulaw_box Q env (dI xs) (dI acc)
  | [], acc, hl, he, q => q acc (by simpa using hl)
  | x :: xs, acc, hl, he, q => by
    obtain ⟨a, b, c, d4, rfl⟩ : ∃ a b c d4, env = [a, b, c, d4] := by
      match env, he with
      | [a, b, c, d4], _ => exact ⟨a, b, c, d4, rfl⟩
    have ih := fun acc' (h : acc'.length ≤ acc.length + 1) => lc_bx2 Q [a, b, c, d4] xs acc' (by simp at hl; omega) he q
    simp [dI, g3_ulaw_box, c2_ulaw_box, e2_ulaw_box] at ih hl ⊢
    refine ⟨powOk (by omega) (by omega) (by decide), ?_⟩
    split
    · have z := ih (acc ++ [x]) (by simp)
      simp at z
      exact ⟨by omega, z⟩
    · exact ih acc (by omega)
def p_ulaw_box : PSp := fun ds Q _ => ∃ ns : List Int, ds = [.scr ns] ∧ ns.length ≤ 63 ∧ Q .box .frz
theorem imp_ulaw_box (ds : List D) (Q : QD) (E : XD) (h : p_ulaw_box ds Q E) : q_ulaw_box ds Q E := by
  obtain ⟨ns, rfl, hl, q⟩ := h
  simp [q_ulaw_box, w_ulaw_box]
  have e : cutD (List.map D.int ns) none (some 60) = dI (cutG ns none (some 60)) := cutD_dI ns none (some 60)
  have hl2 := cutG_len ns none (some 60)
  rw [e]
  refine lc_bx _ _ _ [] (by simp; omega) rfl fun ys hy => ?_
  simp [L]
  refine loop_bx (fun _ => True) _ _ ys _ _ _ fun b s3 => ?_
  simp
  refine lc_bx2 _ _ ys [] (by simp; omega) rfl fun zs hz => ?_
  simp [L]
  exact ⟨zs, rfl, hz, q⟩
theorem fn_ulaw_box {P : Program} {wd : World} {K : PySem.W.Frag} {mg : Str → Option Value} {base : Heap} {f : Addr} {fd : FuncData} (G : Gx P K mg) (F : FnP K "_law_box" 16 f fd) (m : mg "_law_box" = some (.ref f)) : FnAt P wd K mg base boxA 1 "_law_box" 1 p_ulaw_box := by
  have sc := sc_ulaw_box
  exact (FnAt.of F m (fn_body (k := 0) (N := ["script", "cells", "blend", "cell"]) (ps := ["script"]) (w := w_ulaw_box) F sc (fun cdv A outer s H E R0 hr tk pw => (sss_cons (ss_setLc (i := 1) rfl sc.nd (own := [(("cell" : Str), 3)]) (ts := [3]) (si_seq (se_slice (se_pv 0) so_none (so_some se_int))) (blk_ok (N := ["script", "cells", "blend", "cell"]) (sc := defScope (top 16)) (by decide +kernel)) (fun _ _ _ _ _ => (sg_name sc.nd)) (fun _ _ _ _ _ => sts_nil) (fun _ _ _ _ _ => (se_callB call_abs bltAbs rfl G.b_abs bt_abs (sa_cons (se_callTy call_int1 bltInt rfl G.b_int bt_int (sa_cons (se_pv 3) sa_nil)) sa_nil))) rfl) (sss_cons (ss_set (i := 2) sc.nd se_int) (sss_cons (ss_frz [1] (ss_for (ts := [3]) pw rfl (si_seq (se_pv 1)) (sg_name sc.nd) (sss_one (ss_set (i := 2) sc.nd (se_op op_mod bMod (se_callTy call_int1 bltInt rfl G.b_int bt_int (sa_cons (se_op oAdd bAdd (se_op oAdd bAdd (se_op oMul bMul (se_pv 2) se_int) (se_op op_mod bMod (se_callTy call_int1 bltInt rfl G.b_int bt_int (sa_cons (se_pv 3) sa_nil)) se_int)) se_int) sa_nil)) se_int))))) (sss_one (ss_frz [1, 2] (ss_ret (se_mkBox (se_lc rfl sc.nd (own := [(("cell" : Str), 3)]) (ts := [3]) (si_seq (se_pv 1)) (blk_ok (N := ["script", "cells", "blend", "cell"]) (sc := defScope (top 16)) (by decide +kernel)) (fun _ _ _ _ _ => (sg_name sc.nd)) (fun _ _ _ _ _ => (sts_one (st_cmp op_ge bGe (se_pv 3) (se_op op_pow bPow se_int se_int) rfl))) (fun _ _ _ _ _ => (se_pv 3))) (se_pv 2)))))))))) (fun _ _ _ _ _ _ us hl => match us, hl with | [_], _ => rfl)).imp (fun ds Q E h => imp_ulaw_box ds Q E h)
/-! ### _law_draw -/
theorem sc_ulaw_draw : FnScope ["box", "many", "found", "rest", "turn"] ["box", "many"] (defScope (top 17)) := ⟨rfl, rfl, rfl, by decide +kernel, rfl, by decide +kernel, by decide +kernel⟩
def g1_ulaw_draw : WG := (gN 4)
def b1_ulaw_draw : WS := (wSeq (wBxSet1 0 (wBin gMod (wBlt fInt (wCons (wBin fAdd (wBin fMul (wBx1 0) (wLit (.int 16807))) (wLit (.int 41))) wNil)) (wLit (.int 2147483647)))) (wSet 2 (wBin fAdd (wBin fMul (wVar 2) (wLit (.int 2147483647))) (wBx1 0))))
def w_ulaw_draw : WS := (wSeq (wDrawA 0 1 3) (wSeq (wBxSet1 0 (wBin gMod (wBlt fInt (wCons (wBin fAdd (wBin fMul (wBx1 0) (wLit (.int 16807))) (wLit (.int 41))) wNil)) (wLit (.int 2147483647)))) (wSeq (wSet 2 (wBx1 0)) (wSeq (wIfS (wTst (wBin gGt (wVar 1) (wBin gPow (wLit (.int 10)) (wLit (.int 7))))) (wFor (iRng1 (wCons (wLit (.int 2)) wNil)) g1_ulaw_draw b1_ulaw_draw) wNext) (wRet (wBin gMod (wBlt fInt (wCons (wBin gDiv (wVar 2) (wLit (.int 101))) wNil)) (wVar 1)))))))
def q_ulaw_draw : PSp := specOf 5 w_ulaw_draw
theorem loop_dr (many : Int) : ∀ (xs : List Int) (f : Int) (s2 s4 : Slot) (De : EndD), (∀ f s4, De.nx [.val .box, .val (.int many), .val (.int f), s2, s4]) → wLoop g1_ulaw_draw b1_ulaw_draw De (dI xs) [.val .box, .val (.int many), .val (.int f), s2, s4]
  | [], f, s2, s4, De, h => h _ _
  | x :: xs, f, s2, s4, De, h => by
    have ih := fun f s4 => loop_dr many xs f s2 s4 De h
    simp [dI, g1_ulaw_draw, b1_ulaw_draw] at ih ⊢
    exact fun n => ⟨mulR (by omega) (by omega), mulR (by omega) (by omega), fun m => ih _ _⟩
def p_ulaw_draw : PSp := fun ds Q _ => ∃ many : Int, ds = [.box, .int many] ∧ 0 < many ∧ many < 2 ^ 60 ∧ ∀ k : Int, 0 ≤ k → k < many → Q (.int k) .frz
theorem imp_ulaw_draw (ds : List D) (Q : QD) (E : XD) (h : p_ulaw_draw ds Q E) : q_ulaw_draw ds Q E := by
  obtain ⟨many, rfl, h0, h1, q⟩ := h
  have fin : ∀ v : Int, Q (.int (v % many)) .frz := fun v => q _ (Int.emod_nonneg _ (by omega)) (Int.emod_lt_of_pos _ h0)
  simp [q_ulaw_draw, w_ulaw_draw]
  refine ⟨divOk h0 h1, fin, fun n => ⟨mulR (by omega) (by omega), fun n => ⟨powOk (by omega) (by omega) (by decide), ?_⟩⟩⟩
  split
  · refine ⟨⟨by omega, by omega⟩, loop_dr many [0, 1] n .un .un _ fun f s4 => ?_⟩
    simp
    exact ⟨divOk (by omega) (by omega), h0, fin _⟩
  · exact ⟨divOk (by omega) (by omega), h0, fin _⟩
theorem fn_ulaw_draw {P : Program} {wd : World} {K : PySem.W.Frag} {mg : Str → Option Value} {base : Heap} {f : Addr} {fd : FuncData} (G : Gx P K mg) (F : FnP K "_law_draw" 17 f fd) (m : mg "_law_draw" = some (.ref f)) : FnAt P wd K mg base boxA 1 "_law_draw" 2 p_ulaw_draw := by
  have sc := sc_ulaw_draw
  exact (FnAt.of F m (fn_body (k := 0) (N := ["box", "many", "found", "rest", "turn"]) (ps := ["box", "many"]) (w := w_ulaw_draw) F sc (fun cdv A outer s H E R0 hr tk pw => (sss_cons (ss_drawA 0 1 3 (ps_if (pt_cmpR (op_neD hr.units) (pe_ix ix_list (pv 0) pe_int fun _ _ => rfl) (pe_lst pa_nil) rfl) (pss_cons (ps_set sc.nd (i := 3) rfl (Or.inl rfl) (pe_callTy call_int1 rfl G.b_int bt_int (pa_cons (bm_popAt (pe_ix ix_list (pv 0) pe_int fun _ _ => rfl) (pa_cons pe_int pa_nil)) pa_nil))) (pss_cons (ps_if (pt_cmpR op_gt (pe_op op_fdivW (pv 3) (pv 1)) pe_int rfl) (pss_one (ps_expr (bm_insert (pe_ix ix_list (pv 0) pe_int fun _ _ => rfl) (pa_cons pe_int (pa_cons (pe_op op_fdivW (pv 3) (pv 1)) pa_nil))))) pss_nil) (pss_one (ps_ret (pe_op op_mod (pe_callTy call_int1 rfl G.b_int bt_int (pa_cons (pv 3) pa_nil)) (pv 1)))))) pss_nil)) (sss_cons (ss_bxSet1 0 rfl (ps_asg (se_op op_mod bMod (se_callTy call_int1 bltInt rfl G.b_int bt_int (sa_cons (se_op oAdd bAdd (se_op oMul bMul (se_bx1 0 (pe_ix ix_list (pv 0) pe_int fun _ _ => rfl)) se_int) se_int) sa_nil)) se_int) (pg_sub (pv 0) pe_int set_list))) (sss_cons (ss_set (i := 2) sc.nd (se_bx1 0 (pe_ix ix_list (pv 0) pe_int fun _ _ => rfl))) (sss_cons (ss_if (st_cmp op_gt bGt (se_pv 1) (se_op op_pow bPow se_int se_int) rfl) (sss_one (ss_for (ts := [4]) pw rfl (si_range1 rfl G.b_range (sa_cons se_int sa_nil)) (sg_name sc.nd) (sss_cons (ss_bxSet1 0 rfl (ps_asg (se_op op_mod bMod (se_callTy call_int1 bltInt rfl G.b_int bt_int (sa_cons (se_op oAdd bAdd (se_op oMul bMul (se_bx1 0 (pe_ix ix_list (pv 0) pe_int fun _ _ => rfl)) se_int) se_int) sa_nil)) se_int) (pg_sub (pv 0) pe_int set_list))) (sss_one (ss_set (i := 2) sc.nd (se_op oAdd bAdd (se_op oMul bMul (se_pv 2) se_int) (se_bx1 0 (pe_ix ix_list (pv 0) pe_int fun _ _ => rfl)))))))) sss_nil) (sss_one (ss_ret (se_op op_mod bMod (se_callTy call_int1 bltInt rfl G.b_int bt_int (sa_cons (se_op op_fdivW bDiv (se_pv 2) se_int) sa_nil)) (se_pv 1)))))))))) (fun _ _ _ _ _ _ us hl => match us, hl with | [_, _], _ => rfl)).imp (fun ds Q E h => imp_ulaw_draw ds Q E h)
/-! ### _law_pick -/
theorem sc_ulaw_pick : FnScope ["box", "some"] ["box", "some"] (defScope (top 18)) := ⟨rfl, rfl, rfl, by decide +kernel, rfl, by decide +kernel, by decide +kernel⟩
def w_ulaw_pick : WS := (wRet (wBin fIx (wVar 1) (wCall 2 p_ulaw_draw (wCons (wVar 0) (wCons (wBlt fLen (wCons (wVar 1) wNil)) wNil)))))
def q_ulaw_pick : PSp := specOf 2 w_ulaw_pick
def p_ulaw_pick : PSp := fun ds Q _ => ∃ xs : List D, ds = [.box, .lst xs] ∧ xs ≠ [] ∧ xs.length ≤ 1000 ∧ ∀ x ∈ xs, Q x .frz
theorem imp_ulaw_pick (ds : List D) (Q : QD) (E : XD) (h : p_ulaw_pick ds Q E) : q_ulaw_pick ds Q E := by
  obtain ⟨xs, rfl, h0, h1, q⟩ := h
  have hp : 0 < xs.length := List.length_pos_iff.mpr h0
  simp [q_ulaw_pick, w_ulaw_pick]
  refine ⟨xs.length, rfl, by omega, by omega, fun k k0 k1 => ?_⟩
  obtain ⟨n, rfl⟩ := Int.eq_ofNat_of_zero_le k0
  have hn : n < xs.length := by omega
  simp [atI_nat, hn]
  exact q _ (List.getElem_mem hn)
theorem fn_ulaw_pick {P : Program} {wd : World} {K : PySem.W.Frag} {mg : Str → Option Value} {base : Heap} {f : Addr} {fd : FuncData} (G : Gx P K mg) (c_ulaw_draw : FnAt P wd K mg base boxA 1 "_law_draw" 2 p_ulaw_draw) (F : FnP K "_law_pick" 18 f fd) (m : mg "_law_pick" = some (.ref f)) : FnAt P wd K mg base boxA 2 "_law_pick" 2 p_ulaw_pick := by
  have sc := sc_ulaw_pick
  exact (FnAt.of F m (fn_body (k := 1) (N := ["box", "some"]) (ps := ["box", "some"]) (w := w_ulaw_pick) F sc (fun cdv A outer s H E R0 hr tk pw => (sss_one (ss_ret (se_ix ix_seq bIx (se_pv 1) (se_call c_ulaw_draw (hr.mono (by decide)) tk rfl (sa_cons (se_pv 0) (sa_cons (se_callB call_len bltLen rfl G.b_len bt_len (sa_cons (se_pv 1) sa_nil)) sa_nil))) fun _ _ => rfl))))) (fun _ _ _ _ _ _ us hl => match us, hl with | [_, _], _ => rfl)).imp (fun ds Q E h => imp_ulaw_pick ds Q E h)
/-! ### _law_is_int -/
theorem sc_ulaw_is_int : FnScope ["value"] ["value"] (defScope (top 19)) := ⟨rfl, rfl, rfl, by decide +kernel, rfl, by decide +kernel, by decide +kernel⟩
def w_ulaw_is_int : WS := (wRet (wAndV (wIsi ["int"] (wVar 0)) (wNotV (wIsi ["bool"] (wVar 0)))))
def q_ulaw_is_int : PSp := specOf 1 w_ulaw_is_int
def p_ulaw_is_int : PSp := fun ds Q _ => ∃ d, ds = [d] ∧ plain d = true ∧ Q (.bl (isI d)) .frz
theorem imp_ulaw_is_int (ds : List D) (Q : QD) (E : XD) (h : p_ulaw_is_int ds Q E) : q_ulaw_is_int ds Q E := by
  obtain ⟨d, rfl, hp, q⟩ := h
  cases d <;> simp [plain] at hp <;> simp [q_ulaw_is_int, w_ulaw_is_int] <;> simpa [isI] using q
theorem fn_ulaw_is_int {P : Program} {wd : World} {K : PySem.W.Frag} {mg : Str → Option Value} {base : Heap} {f : Addr} {fd : FuncData} (G : Gx P K mg) (F : FnP K "_law_is_int" 19 f fd) (m : mg "_law_is_int" = some (.ref f)) : FnAt P wd K mg base boxA 1 "_law_is_int" 1 p_ulaw_is_int := by
  have sc := sc_ulaw_is_int
  exact (FnAt.of F m (fn_body (k := 0) (N := ["value"]) (ps := ["value"]) (w := w_ulaw_is_int) F sc (fun cdv A outer s H E R0 hr tk pw => (sss_one (ss_ret (se_and (se_isi (se_pv 0) rfl G.b_isinstance rfl G.b_int bt_int) (se_one (se_not (se_isi (se_pv 0) rfl G.b_isinstance rfl G.b_bool bt_bool)))))))) (fun _ _ _ _ _ _ us hl => match us, hl with | [_], _ => rfl)).imp (fun ds Q E h => imp_ulaw_is_int ds Q E h)
theorem fh_ulaw_is_int {P : Program} {wd : World} {K : PySem.W.Frag} {mg : Str → Option Value} {base : Heap} {f : Addr} {fd : FuncData} (G : Gx P K mg) (F : FnP K "_law_is_int" 19 f fd) (m : mg "_law_is_int" = some (.ref f)) : FnAtH P wd K mg base boxA 1 "_law_is_int" 1 p_ulaw_is_int := by
  have sc := sc_ulaw_is_int
  exact (FnAtH.of F m (fn_bodyH (k := 0) (N := ["value"]) (ps := ["value"]) (w := w_ulaw_is_int) F sc (fun cdv A outer s H E R0 p hr hot tk => (sss_one (ss_ret (se_and (se_isi (se_pv 0) rfl G.b_isinstance rfl G.b_int bt_int) (se_one (se_not (se_isi (se_pv 0) rfl G.b_isinstance rfl G.b_bool bt_bool)))))))) (fun _ _ _ _ _ _ us hl => match us, hl with | [_], _ => rfl)).imp (fun ds Q E h => imp_ulaw_is_int ds Q E h)
/-! ### _law_place -/
theorem sc_ulaw_place : FnScope ["value"] ["value"] (defScope (top 20)) := ⟨rfl, rfl, rfl, by decide +kernel, rfl, by decide +kernel, by decide +kernel⟩
def w_ulaw_place : WS := (wRet (wIf (wOrT (wTru (wCall 1 p_ulaw_is_int (wCons (wVar 0) wNil))) (wTru (wIsi ["str"] (wVar 0)))) (wVar 0) (wTup (wCons (wLit (.str (PySem.Str.ofString "no place"))) wNil))))
def q_ulaw_place : PSp := specOf 1 w_ulaw_place
def p_ulaw_place : PSp := fun ds Q _ => ∃ i : Int, ds = [.int i] ∧ Q (.int i) .frz
theorem imp_ulaw_place (ds : List D) (Q : QD) (E : XD) (h : p_ulaw_place ds Q E) : q_ulaw_place ds Q E := by
  obtain ⟨i, rfl, q⟩ := h
  simp [q_ulaw_place, w_ulaw_place]
  exact ⟨.int i, rfl, rfl, by simpa [isI] using q⟩
theorem fn_ulaw_place {P : Program} {wd : World} {K : PySem.W.Frag} {mg : Str → Option Value} {base : Heap} {f : Addr} {fd : FuncData} (G : Gx P K mg) (c_ulaw_is_int : FnAt P wd K mg base boxA 1 "_law_is_int" 1 p_ulaw_is_int) (F : FnP K "_law_place" 20 f fd) (m : mg "_law_place" = some (.ref f)) : FnAt P wd K mg base boxA 2 "_law_place" 1 p_ulaw_place := by
  have sc := sc_ulaw_place
  exact (FnAt.of F m (fn_body (k := 1) (N := ["value"]) (ps := ["value"]) (w := w_ulaw_place) F sc (fun cdv A outer s H E R0 hr tk pw => (sss_one (ss_ret (se_if (st_bool (sw_or (st_tru (se_call c_ulaw_is_int (hr.mono (by decide)) tk rfl (sa_cons (se_pv 0) sa_nil))) (sw_one (st_tru (se_isi (se_pv 0) rfl G.b_isinstance rfl G.b_str bt_str))))) (se_pv 0) (se_tup (sa_cons se_str sa_nil))))))) (fun _ _ _ _ _ _ us hl => match us, hl with | [_], _ => rfl)).imp (fun ds Q E h => imp_ulaw_place ds Q E h)
theorem fh_ulaw_place {P : Program} {wd : World} {K : PySem.W.Frag} {mg : Str → Option Value} {base : Heap} {f : Addr} {fd : FuncData} (G : Gx P K mg) (h_ulaw_is_int : FnAtH P wd K mg base boxA 1 "_law_is_int" 1 p_ulaw_is_int) (F : FnP K "_law_place" 20 f fd) (m : mg "_law_place" = some (.ref f)) : FnAtH P wd K mg base boxA 2 "_law_place" 1 p_ulaw_place := by
  have sc := sc_ulaw_place
  exact (FnAtH.of F m (fn_bodyH (k := 1) (N := ["value"]) (ps := ["value"]) (w := w_ulaw_place) F sc (fun cdv A outer s H E R0 p hr hot tk => (sss_one (ss_ret (se_if (st_bool (sw_or (st_tru (se_callH h_ulaw_is_int (hr.mono (by decide)) hot tk rfl (sa_cons (se_pv 0) sa_nil))) (sw_one (st_tru (se_isi (se_pv 0) rfl G.b_isinstance rfl G.b_str bt_str))))) (se_pv 0) (se_tup (sa_cons se_str sa_nil))))))) (fun _ _ _ _ _ _ us hl => match us, hl with | [_], _ => rfl)).imp (fun ds Q E h => imp_ulaw_place ds Q E h)
/-! ### _law_same -/
theorem sc_ulaw_same : FnScope ["value", "due", "at"] ["value", "due"] (defScope (top 21)) := ⟨rfl, rfl, rfl, by decide +kernel, rfl, by decide +kernel, by decide +kernel⟩
def g1_ulaw_same (pr : PSp) : WG := (gN 2)
def b1_ulaw_same (pr : PSp) : WS := (wIfS (wNotT (wTru (wCall 2 pr (wCons (wBin fIx (wVar 0) (wVar 2)) (wCons (wBin fIx (wVar 1) (wVar 2)) wNil))))) (wRet (wLit (.bl false))) wNext)
def w_ulaw_same (pr : PSp) : WS := (wSeq (wIfS (wTru (wIsi ["tuple"] (wVar 1))) (wSeq (wIfS (wOrT (wNotT (wTru (wIsi ["tuple"] (wVar 0)))) (wTst (wBin (fEqD true) (wBlt fLen (wCons (wVar 0) wNil)) (wBlt fLen (wCons (wVar 1) wNil))))) (wRet (wLit (.bl false))) wNext) (wSeq (wFor (iRng1 (wCons (wBlt fLen (wCons (wVar 1) wNil)) wNil)) (g1_ulaw_same pr) (b1_ulaw_same pr)) (wRet (wLit (.bl true))))) wNext) (wSeq (wIfS (wTst (wBin (gIs false) (wVar 1) (wLit .non))) (wRet (wBin (gIs false) (wVar 0) (wLit .non))) wNext) (wSeq (wIfS (wTru (wIsi ["str"] (wVar 1))) (wRet (wAndV (wIsi ["str"] (wVar 0)) (wBin (fEqD false) (wVar 0) (wVar 1)))) wNext) (wRet (wAndV (wCall 1 p_ulaw_is_int (wCons (wVar 0) wNil)) (wBin (fEqD false) (wVar 0) (wVar 1)))))))
def q_ulaw_same : Nat → PSp
  | 0 => fun _ _ _ => False
  | n + 1 => specOf 3 (w_ulaw_same (q_ulaw_same n))
def sized : Nat → D → Prop
  | 0, _ => False
  | 1, d => d = .non ∨ ∃ i, d = .int i
  | _ + 2, d => d = .non ∨ (∃ i, d = .int i) ∨ ∃ xs : List Int, d = T xs ∧ xs.length ≤ 100000
def p_ulaw_same (n : Nat) : PSp := fun ds Q _ => ∃ d, ds = [d, d] ∧ sized n d ∧ Q (.bl true) .frz
theorem same_int (pr : PSp) (d : D) (Q : QD) (E : XD) (h : d = .non ∨ ∃ i, d = .int i) (q : Q (.bl true) .frz) : specOf 3 (w_ulaw_same pr) [d, d] Q E := by
  rcases h with rfl | ⟨i, rfl⟩
  · simp [w_ulaw_same, gIs]
    exact q
  · simp [w_ulaw_same, gIs]
    refine ⟨.int i, rfl, rfl, ?_⟩
    simp [isI]
    exact q
theorem loop_sm (pr : PSp) (hpr : ∀ (i : Int) (Q : QD) (E : XD), Q (.bl true) .frz → pr [.int i, .int i] Q E) (ys : List Int) : ∀ (k n : Nat) (s2 : Slot) (De : EndD), n + k = ys.length → (∀ s2, De.nx [.val (T ys), .val (T ys), s2]) →
    wLoop (g1_ulaw_same pr) (b1_ulaw_same pr) De (rngF (n : Int) k) [.val (T ys), .val (T ys), s2]
  | 0, n, s2, De, hn, h => h _
  | k + 1, n, s2, De, hn, h => by
    have ih := fun s2 => loop_sm pr hpr ys k (n + 1) s2 De (by omega) h
    have hl : n < ys.length := by omega
    simp [rngF, g1_ulaw_same, b1_ulaw_same, T, atI_nat, dI_get, hl] at ih ⊢
    have e : ∀ h : n < (dI ys).length, (dI ys)[n] = D.int ys[n] := fun h => by simp [dI]
    rw [e]
    refine hpr _ _ _ ?_
    simp
    exact ih _
theorem imp_ulaw_same (n : Nat) (ds : List D) (Q : QD) (E : XD) (h : p_ulaw_same n ds Q E) : q_ulaw_same n ds Q E := by
  obtain ⟨d, rfl, hs, q⟩ := h
  match n, hs with
  | 1, hs => exact same_int _ d Q E hs q
  | n + 2, hs =>
    have hs : d = .non ∨ (∃ i, d = .int i) ∨ ∃ xs : List Int, d = T xs ∧ xs.length ≤ 100000 := hs
    rcases hs with hs | hs | ⟨xs, rfl, hx⟩
    · exact same_int _ d Q E (.inl hs) q
    · exact same_int _ d Q E (.inr hs) q
    · show specOf 3 (w_ulaw_same (q_ulaw_same (n + 1))) _ Q E
      simp [w_ulaw_same, T, rangeD_eq]
      refine ⟨⟨by omega, by omega⟩, ?_⟩
      exact loop_sm _ (fun i Q E q => same_int _ _ Q E (.inr ⟨i, rfl⟩) q) xs xs.length 0 .un _ (by simp) fun s2 => by simpa using q
theorem fq_ulaw_same {P : Program} {wd : World} {K : PySem.W.Frag} {mg : Str → Option Value} {base : Heap} {f : Addr} {fd : FuncData} (G : Gx P K mg) (c_ulaw_is_int : FnAt P wd K mg base boxA 1 "_law_is_int" 1 p_ulaw_is_int) (F : FnP K "_law_same" 21 f fd) (m : mg "_law_same" = some (.ref f)) : ∀ n, FnAt P wd K mg base boxA (2 + n) "_law_same" 2 (q_ulaw_same n)
  | 0 => FnAt.bot F m (ps := ["value", "due"]) (fun _ _ _ _ _ _ us hl => match us, hl with | [_, _], _ => rfl)
  | n + 1 => by
    have c_ulaw_same := fq_ulaw_same G c_ulaw_is_int F m n
    have sc := sc_ulaw_same
    exact FnAt.of F m (fn_body (k := 2 + n) (N := ["value", "due", "at"]) (ps := ["value", "due"]) (w := w_ulaw_same (q_ulaw_same n)) F sc (fun cdv A outer s H E R0 hr tk pw => (sss_cons (ss_if (st_tru (se_isi (se_pv 1) rfl G.b_isinstance rfl G.b_tuple bt_tuple)) (sss_cons (ss_if (st_bool (sw_or (st_not (st_tru (se_isi (se_pv 0) rfl G.b_isinstance rfl G.b_tuple bt_tuple))) (sw_one (st_cmp (op_neD hr.units) bNe (se_callB call_len bltLen rfl G.b_len bt_len (sa_cons (se_pv 0) sa_nil)) (se_callB call_len bltLen rfl G.b_len bt_len (sa_cons (se_pv 1) sa_nil)) rfl)))) (sss_one (ss_ret se_bl)) sss_nil) (sss_cons (ss_for (ts := [2]) pw rfl (si_range1 rfl G.b_range (sa_cons (se_callB call_len bltLen rfl G.b_len bt_len (sa_cons (se_pv 1) sa_nil)) sa_nil)) (sg_name sc.nd) (sss_one (ss_if (st_not (st_tru (se_call c_ulaw_same hr tk rfl (sa_cons (se_ix ix_seq bIx (se_pv 0) (se_pv 2) fun _ _ => rfl) (sa_cons (se_ix ix_seq bIx (se_pv 1) (se_pv 2) fun _ _ => rfl) sa_nil))))) (sss_one (ss_ret se_bl)) sss_nil))) (sss_one (ss_ret se_bl)))) sss_nil) (sss_cons (ss_if (st_cmp op_isN bIs (se_pv 1) se_non rfl) (sss_one (ss_ret (se_cmp op_isN bIs (se_pv 0) se_non rfl))) sss_nil) (sss_cons (ss_if (st_tru (se_isi (se_pv 1) rfl G.b_isinstance rfl G.b_str bt_str)) (sss_one (ss_ret (se_and (se_isi (se_pv 0) rfl G.b_isinstance rfl G.b_str bt_str) (se_one (se_cmp (op_eqD hr.units) bEq (se_pv 0) (se_pv 1) rfl))))) sss_nil) (sss_one (ss_ret (se_and (se_call c_ulaw_is_int (hr.mono (by omega)) tk rfl (sa_cons (se_pv 0) sa_nil)) (se_one (se_cmp (op_eqD hr.units) bEq (se_pv 0) (se_pv 1) rfl)))))))))) (fun _ _ _ _ _ _ us hl => match us, hl with | [_, _], _ => rfl)
theorem fn_ulaw_same {P : Program} {wd : World} {K : PySem.W.Frag} {mg : Str → Option Value} {base : Heap} {f : Addr} {fd : FuncData} (G : Gx P K mg) (c_ulaw_is_int : FnAt P wd K mg base boxA 1 "_law_is_int" 1 p_ulaw_is_int) (F : FnP K "_law_same" 21 f fd) (m : mg "_law_same" = some (.ref f)) (n : Nat) : FnAt P wd K mg base boxA (2 + n) "_law_same" 2 (p_ulaw_same n) := (fq_ulaw_same G c_ulaw_is_int F m n).imp (fun ds Q E h => imp_ulaw_same n ds Q E h)
/-! ### _law_early -/
theorem sc_ulaw_early : FnScope ["row", "history", "found", "at"] ["row", "history"] (defScope (top 22)) := ⟨rfl, rfl, rfl, by decide +kernel, rfl, by decide +kernel, by decide +kernel⟩
def g1_ulaw_early : WG := (gN 3)
def b1_ulaw_early : WS := (wIfS (wAndT (wTst (wBin gLt (wBlt fLen (wCons (wVar 2) wNil)) (wBlt fLen (wCons (wVar 0) wNil)))) (wTst (wBin (fEqD false) (wBin fIx (wVar 0) (wBlt fLen (wCons (wVar 2) wNil))) (wBin fIx (wVar 1) (wVar 3))))) (wApp 2 (wVar 3)) wNext)
def w_ulaw_early : WS := (wSeq (wSet 2 (wLst wNil)) (wSeq (wFor (iRng1 (wCons (wBlt fLen (wCons (wVar 1) wNil)) wNil)) g1_ulaw_early b1_ulaw_early) (wRet (wIf (wTst (wBin (fEqD false) (wBlt fLen (wCons (wVar 2) wNil)) (wBlt fLen (wCons (wVar 0) wNil)))) (wBlt fTuple (wCons (wVar 2) wNil)) (wLit .non)))))
def q_ulaw_early : PSp := specOf 4 w_ulaw_early
theorem loop_le (row hist : List Int) : ∀ (k n : Nat) (found : List Int) (s3 : Slot) (De : EndD), n + k = hist.length → found.length + k < 100000 →
    (∀ s3, De.nx [.val (T row), .val (T hist), .own (L (earlyF row (hist.drop n) n found)), s3]) →
    wLoop g1_ulaw_early b1_ulaw_early De (rngF (n : Int) k) [.val (T row), .val (T hist), .own (L found), s3]
  | 0, n, found, s3, De, hn, hl, h => by
    have e : hist.drop n = [] := List.drop_eq_nil_of_le (by omega)
    rw [e] at h
    exact h _
  | k + 1, n, found, s3, De, hn, hl, h => by
    have ih := fun fo (hf : fo.length ≤ found.length + 1) s3 hh => loop_le row hist k (n + 1) fo s3 De (by omega) (by omega) hh
    have hk : n < hist.length := by omega
    rw [List.drop_eq_getElem_cons hk] at h
    unfold earlyF at h
    have e : ∀ (xs : List Int) (m : Nat) (h : m < (dI xs).length), (dI xs)[m] = D.int (xs[m]'(by simpa using h)) := fun xs m h => by simp [dI]
    simp [rngF, g1_ulaw_early, b1_ulaw_early, T, L, dI] at ih h ⊢
    by_cases hf : found.length < row.length
    · have hg : row[found.length]? = some row[found.length] := List.getElem?_eq_getElem hf
      simp [hf, atI_nat, hg, hk] at h ⊢
      by_cases hx : row[found.length] = hist[n]
      · simp [hx] at h ⊢
        refine ⟨by omega, ?_⟩
        have z := ih (found ++ [(n : Int)]) (by simp)
        simp at z
        exact z _ h
      · simp [hx] at h ⊢
        exact ih found (by omega) _ h
    · have hg : row[found.length]? = none := List.getElem?_eq_none (by omega)
      simp [hf, hg] at h ⊢
      exact ih found (by omega) _ h
def p_ulaw_early : PSp := fun ds Q _ => ∃ row hist : List Int, ds = [T row, T hist] ∧ hist.length ≤ 1000 ∧ Q (earlyD row hist) .frz
theorem imp_ulaw_early (ds : List D) (Q : QD) (E : XD) (h : p_ulaw_early ds Q E) : q_ulaw_early ds Q E := by
  obtain ⟨row, hist, rfl, hl, q⟩ := h
  simp [q_ulaw_early, w_ulaw_early, rangeD_eq, T]
  refine ⟨⟨by omega, by omega⟩, ?_⟩
  have z := loop_le row hist hist.length 0 [] .un
  simp [T, L, dI] at z
  refine z _ (by omega) fun s3 => ?_
  unfold earlyD at q
  by_cases he : (earlyF row hist 0 []).length = row.length
  · simp [he, T, dI] at q ⊢
    exact q
  · simp [he] at q ⊢
    have he' : ¬ ((earlyF row hist 0 []).length : Int) = (row.length : Int) := by omega
    simp [he'] at q ⊢
    exact q
theorem fn_ulaw_early {P : Program} {wd : World} {K : PySem.W.Frag} {mg : Str → Option Value} {base : Heap} {f : Addr} {fd : FuncData} (G : Gx P K mg) (F : FnP K "_law_early" 22 f fd) (m : mg "_law_early" = some (.ref f)) : FnAt P wd K mg base boxA 1 "_law_early" 2 p_ulaw_early := by
  have sc := sc_ulaw_early
  exact (FnAt.of F m (fn_body (k := 0) (N := ["row", "history", "found", "at"]) (ps := ["row", "history"]) (w := w_ulaw_early) F sc (fun cdv A outer s H E R0 hr tk pw => (sss_cons (ss_set (i := 2) sc.nd (se_lst sa_nil)) (sss_cons (ss_for (ts := [3]) pw rfl (si_range1 rfl G.b_range (sa_cons (se_callB call_len bltLen rfl G.b_len bt_len (sa_cons (se_pv 1) sa_nil)) sa_nil)) (sg_name sc.nd) (sss_one (ss_if (st_bool (sw_and (st_cmp op_lt bLt (se_callB call_len bltLen rfl G.b_len bt_len (sa_cons (se_pv 2) sa_nil)) (se_callB call_len bltLen rfl G.b_len bt_len (sa_cons (se_pv 0) sa_nil)) rfl) (sw_one (st_cmp (op_eqD hr.units) bEq (se_ix ix_seq bIx (se_pv 0) (se_callB call_len bltLen rfl G.b_len bt_len (sa_cons (se_pv 2) sa_nil)) fun _ _ => rfl) (se_ix ix_seq bIx (se_pv 1) (se_pv 3) fun _ _ => rfl) rfl)))) (sss_one (ss_app (pe_bm PySem.F.plainAttrs_list PySem.F.slot_list_append PySem.F.type_list_append mt_append (pv 2) (pa_cons (se_pv 3) pa_nil)))) sss_nil))) (sss_one (ss_ret (se_if (st_cmp (op_eqD hr.units) bEq (se_callB call_len bltLen rfl G.b_len bt_len (sa_cons (se_pv 2) sa_nil)) (se_callB call_len bltLen rfl G.b_len bt_len (sa_cons (se_pv 0) sa_nil)) rfl) (se_callTy call_tuple_of bltTuple rfl G.b_tuple bt_tuple (sa_cons (se_pv 2) sa_nil)) se_non))))))) (fun _ _ _ _ _ _ us hl => match us, hl with | [_, _], _ => rfl)).imp (fun ds Q E h => imp_ulaw_early ds Q E h)
/-! ### _law_asked -/
theorem sc_ulaw_asked : FnScope ["box", "row", "history", "told", "one", "other"] ["box", "row", "history"] (defScope (top 23)) := ⟨rfl, rfl, rfl, by decide +kernel, rfl, by decide +kernel, by decide +kernel⟩
def w_ulaw_asked : WS := (wSeq (wPar 4 5 (wCons (wBlt fList (wCons (wVar 1) wNil)) (wCons (wBlt fList (wCons (wVar 2) wNil)) wNil))) (wSeq (wFrz [4, 5] (wSet 3 (wCall 2 p_picked (wCons (wVar 4) (wCons (wVar 5) wNil))))) (wSeq (wFrz [3] (wIfS (wOrT (wTst (wBin (fEqD true) (wBlt fTuple (wCons (wVar 4) wNil)) (wVar 1))) (wOrT (wTst (wBin (fEqD true) (wBlt fTuple (wCons (wVar 5) wNil)) (wVar 2))) (wNotT (wTru (wCall 2 (p_ulaw_same 3) (wCons (wVar 3) (wCons (wCall 2 p_ulaw_early (wCons (wVar 1) (wCons (wVar 2) wNil))) wNil))))))) (wRet (wLit (.bl false))) wNext)) (wFrz [3] (wRet (wCall 2 (p_ulaw_same 3) (wCons (wCall 2 p_picked (wCons (wVar 1) (wCons (wVar 2) wNil))) (wCons (wVar 3) wNil))))))))
def q_ulaw_asked : PSp := specOf 6 w_ulaw_asked
def okR (xs : List Int) : Prop := xs.length ≤ 400 ∧ ∀ x ∈ xs, 0 ≤ x ∧ x < 6
theorem badAt_ok {k : Int} : ∀ {xs : List Int} {n : Nat}, (∀ x ∈ xs, 0 ≤ x ∧ x < k) → badAt k n (dI xs) = .non
  | [], _, _ => rfl
  | x :: xs, n, h => by
    have hx := h x (List.mem_cons_self ..)
    show badAt k n (.int x :: dI xs) = .non
    unfold badAt
    rw [if_pos (by simp [below, hx])]
    exact badAt_ok fun y hy => h y (List.mem_cons_of_mem _ hy)
theorem hwT {xs : List Int} (h : okR xs) : histWrong (T xs) 6 = .non ∧ histWrong (L xs) 6 = .non := by
  have h1 := h.1
  constructor <;> simp [histWrong, T, L, isSq] <;> rw [if_neg (by omega)] <;> exact badAt_ok h.2
theorem plT (xs : List Int) : plain (T xs) = true := Sh.T.pl
theorem plL (xs : List Int) : plain (L xs) = true := Sh.L.pl
theorem dI_inj {xs ys : List Int} (h : dI xs = dI ys) : xs = ys := by
  unfold dI at h
  exact List.map_inj_right (fun a b e => by cases e; rfl) |>.mp h
theorem picked_ok {a b : D} {xs ys : List Int} {Q : QD} {E : XD} (hx : okR xs) (hy : okR ys) (ha : a = T xs ∨ a = L xs) (hb : b = T ys ∨ b = L ys) (q : Q (earlyD xs ys) .frz) : p_picked [a, b] Q E := by
  have ea : histWrong a 6 = .non := by rcases ha with rfl | rfl; exact (hwT hx).1; exact (hwT hx).2
  have eb : histWrong b 6 = .non := by rcases hb with rfl | rfl; exact (hwT hy).1; exact (hwT hy).2
  refine ⟨a, b, rfl, ?_, ?_, fun z => ?_, fun _ z => ?_, fun us vs _ _ e1 e2 _ _ => ?_⟩
  · rcases ha with rfl | rfl; exact plT _; exact plL _
  · rcases hb with rfl | rfl; exact plT _; exact plL _
  · rw [ea] at z; cases z
  · rw [eb] at z; cases z
  · have u : us = xs := by
      rcases ha with rfl | rfl <;> simp [isSq, T, L] at e1 <;> exact (dI_inj e1).symm
    have v : vs = ys := by
      rcases hb with rfl | rfl <;> simp [isSq, T, L] at e2 <;> exact (dI_inj e2).symm
    rw [u, v]
    exact q
theorem earlyF_len (row : List Int) : ∀ (xs : List Int) (n : Nat) (f : List Int), (earlyF row xs n f).length ≤ f.length + xs.length
  | [], n, f => by simp [earlyF]
  | x :: xs, n, f => by
    unfold earlyF
    split
    · have := earlyF_len row xs (n + 1) (f ++ [(n : Int)])
      simp at this ⊢
      omega
    · have := earlyF_len row xs (n + 1) f
      simp at this ⊢
      omega
theorem sized_early (xs ys : List Int) (h : ys.length ≤ 1000) (n : Nat) : sized (n + 2) (earlyD xs ys) := by
  unfold earlyD
  split
  · refine .inr (.inr ⟨_, rfl, ?_⟩)
    have := earlyF_len xs ys 0 []
    simp at this
    omega
  · exact .inl rfl
theorem fNe_T {xs ys : List Int} {Q : QD} : fEqD true (.tup (dI xs)) (.tup (dI ys)) Q = Q (.bl (!decide (xs = ys))) .frz := by
  refine propext ⟨fun ⟨_, _, _, _, q⟩ => ?_, fun q => fEqD_of (n := 1) (m := 1) Sh.T Sh.T ?_⟩
  · have z := eqD_T xs ys
    unfold eqD T at z
    rw [z] at q
    simpa using q
  · have z := eqD_T xs ys
    unfold T at z
    rw [z]
    simpa using q
def p_ulaw_asked : PSp := fun ds Q _ => ∃ row hist : List Int, ds = [.box, T row, T hist] ∧ okR row ∧ okR hist ∧ Q (.bl true) .frz
theorem imp_ulaw_asked (ds : List D) (Q : QD) (E : XD) (h : p_ulaw_asked ds Q E) : q_ulaw_asked ds Q E := by
  obtain ⟨row, hist, rfl, h1, h2, q⟩ := h
  simp [q_ulaw_asked, w_ulaw_asked, T]
  refine picked_ok h1 h2 (.inr rfl) (.inr rfl) ?_
  simp [fNe_T]
  have hl := h2.1
  refine ⟨row, hist, rfl, by omega, ?_⟩
  simp
  refine ⟨_, rfl, sized_early row hist (by omega) 1, ?_⟩
  simp
  refine picked_ok h1 h2 (.inl rfl) (.inl rfl) ?_
  simp
  exact ⟨_, rfl, sized_early row hist (by omega) 1, by simpa using q⟩
theorem fn_ulaw_asked {P : Program} {wd : World} {K : PySem.W.Frag} {mg : Str → Option Value} {base : Heap} {f : Addr} {fd : FuncData} (G : Gx P K mg) (c_picked : FnAt P wd K mg base boxA 5 "picked" 2 p_picked) (c_ulaw_same : FnAt P wd K mg base boxA 5 "_law_same" 2 (p_ulaw_same 3)) (c_ulaw_early : FnAt P wd K mg base boxA 1 "_law_early" 2 p_ulaw_early) (F : FnP K "_law_asked" 23 f fd) (m : mg "_law_asked" = some (.ref f)) : FnAt P wd K mg base boxA 6 "_law_asked" 3 p_ulaw_asked := by
  have sc := sc_ulaw_asked
  exact (FnAt.of F m (fn_body (k := 5) (N := ["box", "row", "history", "told", "one", "other"]) (ps := ["box", "row", "history"]) (w := w_ulaw_asked) F sc (fun cdv A outer s H E R0 hr tk pw => (sss_cons (ss_par (i := 4) (j := 5) rfl sc.nd (sa_cons (se_callTy call_list_of bltList rfl G.b_list bt_list (sa_cons (se_pv 1) sa_nil)) (sa_cons (se_callTy call_list_of bltList rfl G.b_list bt_list (sa_cons (se_pv 2) sa_nil)) sa_nil))) (sss_cons (ss_frz [4, 5] (ss_set (i := 3) sc.nd (se_call c_picked (hr.mono (by decide)) tk rfl (sa_cons (se_pv 4) (sa_cons (se_pv 5) sa_nil))))) (sss_cons (ss_frz [3] (ss_if (st_bool (sw_or (st_cmp (op_neD hr.units) bNe (se_callTy call_tuple_of bltTuple rfl G.b_tuple bt_tuple (sa_cons (se_pv 4) sa_nil)) (se_pv 1) rfl) (sw_or (st_cmp (op_neD hr.units) bNe (se_callTy call_tuple_of bltTuple rfl G.b_tuple bt_tuple (sa_cons (se_pv 5) sa_nil)) (se_pv 2) rfl) (sw_one (st_not (st_tru (se_call c_ulaw_same (hr.mono (by decide)) tk rfl (sa_cons (se_pv 3) (sa_cons (se_call c_ulaw_early (hr.mono (by decide)) tk rfl (sa_cons (se_pv 1) (sa_cons (se_pv 2) sa_nil))) sa_nil))))))))) (sss_one (ss_ret se_bl)) sss_nil)) (sss_one (ss_frz [3] (ss_ret (se_call c_ulaw_same (hr.mono (by decide)) tk rfl (sa_cons (se_call c_picked (hr.mono (by decide)) tk rfl (sa_cons (se_pv 1) (sa_cons (se_pv 2) sa_nil))) (sa_cons (se_pv 3) sa_nil))))))))))) (fun _ _ _ _ _ _ us hl => match us, hl with | [_, _, _], _ => rfl)).imp (fun ds Q E h => imp_ulaw_asked ds Q E h)
/-! ### _law_some -/
theorem sc_ulaw_some : FnScope ["box", "history", "share", "at"] ["box", "history"] (defScope (top 24)) := ⟨rfl, rfl, rfl, by decide +kernel, rfl, by decide +kernel, by decide +kernel⟩
def g1_ulaw_some : WG := (gN 3)
def c1_ulaw_some : WB := (wTst (wBin gLt (wCall 2 p_ulaw_draw (wCons (wVar 0) (wCons (wLit (.int 10)) wNil))) (wVar 2)))
def e1_ulaw_some : WE := (wVar 3)
def w_ulaw_some : WS := (wSeq (wSet 2 (wCall 2 p_ulaw_pick (wCons (wVar 0) (wCons (wLst (wCons (wLit (.int 1)) (wCons (wLit (.int 5)) (wCons (wLit (.int 9)) wNil)))) wNil)))) (wRet (wLc [3] (iRng1 (wCons (wBlt fLen (wCons (wVar 1) wNil)) wNil)) g1_ulaw_some c1_ulaw_some e1_ulaw_some)))
def q_ulaw_some : PSp := specOf 4 w_ulaw_some
def iota : Nat → Nat → List Int
  | _, 0 => []
  | n, k + 1 => (n : Int) :: iota (n + 1) k
theorem lc_some (Q : QD) (s1 : Slot) (share : Int) : ∀ (k n : Nat) (acc : List Int) (s3 : Slot), acc.length + k ≤ 1000 → (∀ ys, ys.Sublist (iota n k) → Q (L (acc ++ ys)) .own) →
    lcLoop [3] g1_ulaw_some c1_ulaw_some e1_ulaw_some Q [.val .box, s1, .val (.int share), s3] (rngF (n : Int) k) (dI acc)
  | 0, n, acc, s3, hl, q => by
    have z := q [] (List.Sublist.refl _)
    simpa [rngF, L] using z
  | k + 1, n, acc, s3, hl, q => by
    have ih := fun acc' (h : acc'.length ≤ acc.length + 1) => lc_some Q s1 share k (n + 1) acc' s3 (by omega)
    simp [rngF, g1_ulaw_some, c1_ulaw_some, e1_ulaw_some] at ih ⊢
    refine ⟨10, rfl, by omega, by omega, fun v _ _ => ?_⟩
    simp
    by_cases hv : v < share
    · rw [if_pos hv]
      refine ⟨by omega, ?_⟩
      have z := ih (acc ++ [(n : Int)]) (by simp) fun ys h => by
        have := q ((n : Int) :: ys) (List.Sublist.cons_cons _ h)
        simpa using this
      simpa [dI] using z
    · rw [if_neg hv]
      exact ih acc (by omega) fun ys h => q ys (List.Sublist.cons _ h)
def p_ulaw_some : PSp := fun ds Q _ => ∃ xs : List Int, ds = [.box, T xs] ∧ xs.length ≤ 1000 ∧ ∀ ys : List Int, ys.Sublist (iota 0 xs.length) → Q (L ys) .own
theorem imp_ulaw_some (ds : List D) (Q : QD) (E : XD) (h : p_ulaw_some ds Q E) : q_ulaw_some ds Q E := by
  obtain ⟨xs, rfl, hl, q⟩ := h
  simp [q_ulaw_some, w_ulaw_some, T, rangeD_eq]
  refine ⟨[.int 1, .int 5, .int 9], rfl, by simp, by simp, fun x hx => ?_⟩
  obtain ⟨share, rfl⟩ : ∃ i, x = .int i := by
    simp at hx
    rcases hx with rfl | rfl | rfl <;> exact ⟨_, rfl⟩
  simp
  refine ⟨⟨by omega, by omega⟩, ?_⟩
  exact lc_some _ _ share xs.length 0 [] .un (by simp; omega) fun ys h => by simpa using q ys h
theorem fn_ulaw_some {P : Program} {wd : World} {K : PySem.W.Frag} {mg : Str → Option Value} {base : Heap} {f : Addr} {fd : FuncData} (G : Gx P K mg) (c_ulaw_draw : FnAt P wd K mg base boxA 1 "_law_draw" 2 p_ulaw_draw) (c_ulaw_pick : FnAt P wd K mg base boxA 2 "_law_pick" 2 p_ulaw_pick) (F : FnP K "_law_some" 24 f fd) (m : mg "_law_some" = some (.ref f)) : FnAt P wd K mg base boxA 3 "_law_some" 2 p_ulaw_some := by
  have sc := sc_ulaw_some
  exact (FnAt.of F m (fn_body (k := 2) (N := ["box", "history", "share", "at"]) (ps := ["box", "history"]) (w := w_ulaw_some) F sc (fun cdv A outer s H E R0 hr tk pw => (sss_cons (ss_set (i := 2) sc.nd (se_call c_ulaw_pick (hr.mono (by decide)) tk rfl (sa_cons (se_pv 0) (sa_cons (se_lst (sa_cons se_int (sa_cons se_int (sa_cons se_int sa_nil)))) sa_nil)))) (sss_one (ss_ret (se_lc rfl sc.nd (own := [(("at" : Str), 3)]) (ts := [3]) (si_range1 rfl G.b_range (sa_cons (se_callB call_len bltLen rfl G.b_len bt_len (sa_cons (se_pv 1) sa_nil)) sa_nil)) (blk_ok (N := ["box", "history", "share", "at"]) (sc := defScope (top 24)) (by decide +kernel)) (fun _ _ _ _ _ => (sg_name sc.nd)) (fun _ _ _ _ _ => (sts_one (st_cmp op_lt bLt (se_call c_ulaw_draw (hr.mono (by decide)) takes_no rfl (sa_cons (se_pv 0) (sa_cons se_int sa_nil))) (se_pv 2) rfl))) (fun _ _ _ _ _ => (se_pv 3)))))))) (fun _ _ _ _ _ _ us hl => match us, hl with | [_, _], _ => rfl)).imp (fun ds Q E h => imp_ulaw_some ds Q E h)
/-! ### _law_refused -/
theorem sc_ulaw_refused : FnScope ["row", "history", "e"] ["row", "history"] (defScope (top 25)) := ⟨rfl, rfl, rfl, by decide +kernel, rfl, by decide +kernel, by decide +kernel⟩
def w_ulaw_refused : WS := (wSeq (wTry tab_InvalidHistory 2 (wExpr (wCall 2 p_picked (wCons (wVar 0) (wCons (wVar 1) wNil)))) (fun ea ed => (wRet (wTup (wCons (wLit (.str (PySem.Str.ofString "history"))) (wCons (wCall 1 p_ulaw_place (wCons (wXf 2 ea ed "at") wNil)) wNil)))))) (wRet (wTup (wCons (wLit (.str (PySem.Str.ofString "told"))) wNil))))
def q_ulaw_refused : PSp := specOf 3 w_ulaw_refused
def p_ulaw_refused : PSp := fun ds Q _ => ∃ a b, ds = [a, b] ∧ plain a = true ∧ plain b = true ∧ (isNon (histWrong a 6) = false → Q (.tup [.str "history", .int 0]) .frz) ∧
  (isNon (histWrong a 6) = true → isNon (histWrong b 6) = false → Q (.tup [.str "history", .int 1]) .frz) ∧ (isNon (histWrong a 6) = true → isNon (histWrong b 6) = true → Q (.tup [.str "told"]) .frz)
theorem imp_ulaw_refused (ds : List D) (Q : QD) (E : XD) (h : p_ulaw_refused ds Q E) : q_ulaw_refused ds Q E := by
  obtain ⟨a, b, rfl, ha, hb, q1, q2, q3⟩ := h
  simp [q_ulaw_refused, w_ulaw_refused]
  refine ⟨a, b, rfl, ha, hb, fun h1 => ?_, fun h1 h2 => ?_, fun xs ys h1 h2 _ _ _ _ => ?_⟩
  · simp
    exact .inr ⟨rfl, 0, rfl, by simp, q1 h1⟩
  · simp
    exact .inr ⟨rfl, 1, rfl, by simp, q2 h1 h2⟩
  · simp
    exact (q3 (by rw [h1]; rfl) (by rw [h2]; rfl))
theorem fn_ulaw_refused {P : Program} {wd : World} {K : PySem.W.Frag} {mg : Str → Option Value} {base : Heap} {f : Addr} {fd : FuncData} (G : Gx P K mg) (c_picked : FnAt P wd K mg base boxA 5 "picked" 2 p_picked) (h_ulaw_place : FnAtH P wd K mg base boxA 2 "_law_place" 1 p_ulaw_place) (F : FnP K "_law_refused" 25 f fd) (m : mg "_law_refused" = some (.ref f)) : FnAt P wd K mg base boxA 6 "_law_refused" 2 p_ulaw_refused := by
  have sc := sc_ulaw_refused
  obtain ⟨C_InvalidHistory, x_InvalidHistory⟩ := G.x_InvalidHistory
  have t_InvalidHistory := G.t_InvalidHistory _ x_InvalidHistory.1
  have fx_InvalidHistory_at := G.f_InvalidHistory_at
  exact (FnAt.of F m (fn_body (k := 5) (N := ["row", "history", "e"]) (ps := ["row", "history"]) (w := w_ulaw_refused) F sc (fun cdv A outer s H E R0 hr tk pw => (sss_cons (ss_try (i := 2) (tab := tab_InvalidHistory) rfl rfl sc.nd t_InvalidHistory ⟨rfl, by decide, .inl x_InvalidHistory.1⟩ tk (fun _ _ _ tkb pwb => (sss_one (ss_expr (se_call c_picked (hr.mono (by decide)) tkb rfl (sa_cons (se_pv 0) (sa_cons (se_pv 1) sa_nil)))))) (fun ea _ _ ed _ hz hf hi hot => (sss_one (ss_ret (se_tup (sa_cons se_str (sa_cons (se_callH h_ulaw_place ((roomS hr).mono (by decide)) hot takes_no rfl (sa_cons (se_xf 2 hz hf hi (fx_InvalidHistory_at)) sa_nil)) sa_nil))))))) (sss_one (ss_ret (se_tup (sa_cons se_str sa_nil))))))) (fun _ _ _ _ _ _ us hl => match us, hl with | [_, _], _ => rfl)).imp (fun ds Q E h => imp_ulaw_refused ds Q E h)
/-! ### law -/
theorem sc_law : FnScope ["script", "box", "turn", "bad", "kinds", "history", "spots", "row", "told", "part", "turned", "other", "at"] ["script"] (defScope (top 26)) := ⟨rfl, rfl, rfl, by decide +kernel, rfl, by decide +kernel, by decide +kernel⟩
def g1_law : WG := (gN 12)
def c1_law : WB := wYes
def e1_law : WE := (wCall 2 p_ulaw_draw (wCons (wVar 1) (wCons (wVar 4) wNil)))
def g2_law : WG := (gN 12)
def c2_law : WB := wYes
def e2_law : WE := (wBin fIx (wVar 5) (wVar 12))
def g3_law : WG := (gN 12)
def c3_law : WB := (wTst (wBin gGt (wBin fIx (wVar 8) (wVar 12)) (wBin fIx (wVar 6) (wVar 12))))
def e3_law : WE := (wVar 12)
def g4_law : WG := (gN 12)
def c4_law : WB := wYes
def e4_law : WE := (wBin fIx (wVar 7) (wVar 12))
def g5_law : WG := (gN 2)
def b1_law : WS := (wSeq (wFrz [1] (wSet 4 (wCall 2 p_ulaw_pick (wCons (wVar 1) (wCons (wLst (wCons (wLit (.int 1)) (wCons (wLit (.int 2)) (wCons (wLit (.int 2)) (wCons (wLit (.int 3)) (wCons (wLit (.int 6)) wNil)))))) wNil))))) (wSeq (wFrz [1, 4] (wSet 5 (wBlt fTuple (wCons (wLc [12] (iRng1 (wCons (wCall 2 p_ulaw_draw (wCons (wVar 1) (wCons (wCall 2 p_ulaw_pick (wCons (wVar 1) (wCons (wLst (wCons (wLit (.int 6)) (wCons (wLit (.int 40)) (wCons (wLit (.int 401)) wNil)))) wNil))) wNil))) wNil)) g1_law c1_law e1_law) wNil)))) (wSeq (wFrz [1, 5] (wSet 6 (wCall 2 p_ulaw_some (wCons (wVar 1) (wCons (wVar 5) wNil))))) (wSeq (wFrz [6] (wSet 7 (wBlt fTuple (wCons (wLc [12] (iSeq (wVar 6)) g2_law c2_law e2_law) wNil)))) (wSeq (wFrz [1, 5, 7] (wIfS (wOrT (wNotT (wTru (wCall 3 p_ulaw_asked (wCons (wVar 1) (wCons (wVar 7) (wCons (wVar 5) wNil)))))) (wOrT (wNotT (wTru (wCall 3 p_ulaw_asked (wCons (wVar 1) (wCons (wVar 5) (wCons (wVar 5) wNil)))))) (wNotT (wTru (wCall 3 p_ulaw_asked (wCons (wVar 1) (wCons (wTup wNil) (wCons (wVar 5) wNil)))))))) (wRet (wLit (.bl false))) wNext)) (wSeq (wFrz [5, 7] (wSet 8 (wCall 2 p_picked (wCons (wVar 7) (wCons (wVar 5) wNil))))) (wSeq (wIfS (wOrT (wTst (wBin (gIs false) (wVar 8) (wLit .non))) (wTst (wBin (fEqD true) (wLc [12] (iRng1 (wCons (wBlt fLen (wCons (wVar 6) wNil)) wNil)) g3_law c3_law e3_law) (wLst wNil)))) (wRet (wLit (.bl false))) wNext) (wSeq (wFrz [1, 7] (wSet 9 (wBlt fTuple (wCons (wLc [12] (iSeq (wCall 2 p_ulaw_some (wCons (wVar 1) (wCons (wVar 7) wNil)))) g4_law c4_law e4_law) wNil)))) (wSeq (wFrz [1, 5, 7, 9] (wIfS (wOrT (wTst (wBin (gIs false) (wCall 2 p_picked (wCons (wVar 9) (wCons (wVar 7) wNil))) (wLit .non))) (wOrT (wTst (wBin (gIs false) (wCall 2 p_picked (wCons (wVar 9) (wCons (wVar 5) wNil))) (wLit .non))) (wNotT (wTru (wCall 3 p_ulaw_asked (wCons (wVar 1) (wCons (wVar 9) (wCons (wVar 7) wNil)))))))) (wRet (wLit (.bl false))) wNext)) (wSeq (wFrz [1] (wSet 10 (wBin fAdd (wSl (wBlt fList (wCons (wVar 7) wNil)) oNone (oSome (wLit (.int 399)))) (wLst (wCons (wCall 2 p_ulaw_draw (wCons (wVar 1) (wCons (wLit (.int 6)) wNil))) wNil))))) (wSeq (wFrz [1] (wSetIx 10 (wCall 2 p_ulaw_draw (wCons (wVar 1) (wCons (wBlt fLen (wCons (wVar 10) wNil)) wNil))) (wCall 2 p_ulaw_draw (wCons (wVar 1) (wCons (wLit (.int 6)) wNil))))) (wSeq (wFrz [1] (wSet 11 (wCall 2 p_ulaw_draw (wCons (wVar 1) (wCons (wBlt fLen (wCons (wVar 10) wNil)) wNil))))) (wSeq (wFrz [1, 5] (wIfS (wOrT (wNotT (wTru (wCall 3 p_ulaw_asked (wCons (wVar 1) (wCons (wBlt fTuple (wCons (wVar 10) wNil)) (wCons (wVar 5) wNil)))))) (wNotT (wTru (wCall 3 p_ulaw_asked (wCons (wVar 1) (wCons (wSl (wBlt fTuple (wCons (wBin fAdd (wSl (wVar 10) (oSome (wVar 11)) oNone) (wSl (wVar 10) oNone (oSome (wVar 11)))) wNil)) oNone (oSome (wLit (.int 400)))) (wCons (wVar 5) wNil))))))) (wRet (wLit (.bl false))) wNext)) (wFrz [1, 5, 7] (wIfS (wOrT (wNotT (wTru (wCall 3 p_ulaw_asked (wCons (wVar 1) (wCons (wVar 5) (wCons (wVar 7) wNil)))))) (wNotT (wTru (wCall 2 (p_ulaw_same 3) (wCons (wCall 2 p_picked (wCons (wBlt fTuple (wCons (wSl (wVar 10) oNone (oSome (wLit (.int 400)))) wNil)) (wCons (wVar 7) wNil))) (wCons (wCall 2 p_ulaw_early (wCons (wBlt fTuple (wCons (wSl (wVar 10) oNone (oSome (wLit (.int 400)))) wNil)) (wCons (wVar 7) wNil))) wNil)))))) (wRet (wLit (.bl false))) wNext)))))))))))))))
def w_law : WS := (wSeq (wSet 1 (wCall 1 p_ulaw_box (wCons (wVar 0) wNil))) (wSeq (wFor (iRng1 (wCons (wLit (.int 3)) wNil)) g5_law b1_law) (wSeq (wFrz [1] (wSet 3 (wCall 2 p_ulaw_pick (wCons (wVar 1) (wCons (wLst (wCons (wLst (wCons (wLit (.int 6)) wNil)) (wCons (wLst (wCons (wLit (.int 0)) (wCons (wBin gSub (wLit (.int 0)) (wLit (.int 1))) wNil))) (wCons (wTup (wCons (wLit .non) wNil)) (wCons (wLst (wCons (wLit (.bl true)) wNil)) (wCons (wLst (wCons (wLit (.str (PySem.Str.ofString "0"))) wNil)) (wCons (wLst (wCons (wTup (wCons (wLit (.int 0)) wNil)) wNil)) (wCons (wLit .non) (wCons (wLit (.int 3)) (wCons (wLit (.str (PySem.Str.ofString "0"))) (wCons (wBin fMul (wLst (wCons (wLit (.int 0)) wNil)) (wLit (.int 401))) wNil))))))))))) wNil))))) (wSeq (wFrz [1, 3, 5] (wIfS (wOrT (wTst (wBin (fEqD true) (wCall 2 p_ulaw_refused (wCons (wVar 3) (wCons (wCall 2 p_ulaw_pick (wCons (wVar 1) (wCons (wLst (wCons (wVar 3) (wCons (wLst (wCons (wLit (.int 0)) wNil)) (wCons (wTup wNil) wNil)))) wNil))) wNil))) (wTup (wCons (wLit (.str (PySem.Str.ofString "history"))) (wCons (wLit (.int 0)) wNil))))) (wTst (wBin (fEqD true) (wCall 2 p_ulaw_refused (wCons (wVar 5) (wCons (wVar 3) wNil))) (wTup (wCons (wLit (.str (PySem.Str.ofString "history"))) (wCons (wLit (.int 1)) wNil)))))) (wRet (wLit (.bl false))) wNext)) (wRet (wBin (fEqD false) (wCall 2 p_ulaw_refused (wCons (wBin fMul (wLst (wCons (wLit (.int 0)) wNil)) (wLit (.int 400))) (wCons (wBin fMul (wTup (wCons (wLit (.int 5)) wNil)) (wLit (.int 400))) wNil))) (wTup (wCons (wLit (.str (PySem.Str.ofString "told"))) wNil))))))))
def q_law : PSp := specOf 13 w_law
/-! ### the plain law: a row that is picked out is found again, at places no later -/
def earlyG : List Int → List Int → Nat → List Int
  | [], _, _ => []
  | _ :: _, [], _ => []
  | r :: rs, x :: xs, n => if r = x then (n : Int) :: earlyG rs xs (n + 1) else earlyG (r :: rs) xs (n + 1)
theorem earlyG_nil (xs : List Int) (n : Nat) : earlyG [] xs n = [] := by cases xs <;> rfl
theorem earlyF_eq (row : List Int) : ∀ (xs : List Int) (n : Nat) (f : List Int), f.length ≤ row.length → earlyF row xs n f = f ++ earlyG (row.drop f.length) xs n
  | [], n, f, hf => by
    unfold earlyF
    cases row.drop f.length <;> simp [earlyG]
  | x :: xs, n, f, hf => by
    unfold earlyF
    by_cases hl : f.length < row.length
    · rw [List.drop_eq_getElem_cons hl, List.getElem?_eq_getElem hl]
      by_cases hx : row[f.length] = x
      · rw [if_pos (by rw [hx]), earlyF_eq row xs (n + 1) (f ++ [(n : Int)]) (by simp; omega)]
        conv => rhs; unfold earlyG
        rw [if_pos hx]
        simp
      · rw [if_neg (by simpa using hx), earlyF_eq row xs (n + 1) f hf, List.drop_eq_getElem_cons hl]
        conv => rhs; unfold earlyG
        rw [if_neg hx]
    · have e : row.drop f.length = [] := List.drop_eq_nil_of_le (by omega)
      rw [List.getElem?_eq_none (by omega), if_neg (by simp), earlyF_eq row xs (n + 1) f hf, e, earlyG_nil, earlyG_nil]
theorem early_full : ∀ (xs rs : List Int) (n : Nat), rs.Sublist xs → (earlyG rs xs n).length = rs.length
  | xs, [], n, _ => by rw [earlyG_nil]
  | [], r :: rs, n, h => by cases h
  | x :: xs, r :: rs, n, h => by
    unfold earlyG
    by_cases e : r = x
    · rw [if_pos e, List.length_cons, List.length_cons, early_full xs rs (n + 1) (by
        cases h with
        | cons _ h => exact (List.sublist_cons_self r rs).trans h
        | cons_cons _ h => exact h)]
    · rw [if_neg e]
      refine early_full xs (r :: rs) (n + 1) ?_
      cases h with
      | cons _ h => exact h
      | cons_cons _ h => exact absurd rfl e
theorem iota_mem : ∀ {k n : Nat} {p : Int}, p ∈ iota n k → (n : Int) ≤ p ∧ p < n + k
  | 0, n, p, h => by cases h
  | k + 1, n, p, h => by
    rcases List.mem_cons.mp h with rfl | h
    · omega
    · have := iota_mem h
      omega
def pickA (xs : List Int) (n : Nat) (p : Int) : Int := xs.getD (p - n).toNat 0
theorem pickA_next {x : Int} {xs : List Int} {n : Nat} {ps : List Int} (h : ∀ p ∈ ps, ((n + 1 : Nat) : Int) ≤ p) : ps.map (pickA (x :: xs) n) = ps.map (pickA xs (n + 1)) := by
  refine List.map_congr_left fun p hp => ?_
  have := h p hp
  unfold pickA
  have e : (p - (n : Int)).toNat = (p - ((n + 1 : Nat) : Int)).toNat + 1 := by omega
  rw [e]
  rfl
theorem pickA_self {x : Int} {xs : List Int} {n : Nat} : pickA (x :: xs) n (n : Int) = x := by
  unfold pickA
  simp
theorem iota_ge {k n : Nat} {ps : List Int} (h : ps.Sublist (iota n k)) : ∀ p ∈ ps, (n : Int) ≤ p := fun p hp => (iota_mem (h.subset hp)).1
theorem pick_sub : ∀ (xs ps : List Int) (n : Nat), ps.Sublist (iota n xs.length) → (ps.map (pickA xs n)).Sublist xs
  | [], ps, n, h => by
    have e : ps = [] := List.sublist_nil.mp h
    subst e
    exact List.Sublist.refl _
  | x :: xs, ps, n, h => by
    have h' : ps.Sublist ((n : Int) :: iota (n + 1) xs.length) := h
    cases h' with
    | cons _ h1 =>
      rw [pickA_next (iota_ge h1)]
      exact List.Sublist.cons _ (pick_sub xs ps (n + 1) h1)
    | @cons_cons qs _ _ h1 =>
      rw [List.map_cons, pickA_self, pickA_next (iota_ge h1)]
      exact List.Sublist.cons_cons _ (pick_sub xs qs (n + 1) h1)
inductive Le2 : List Int → List Int → Prop
  | nil : Le2 [] []
  | cons {a b : Int} {as bs : List Int} : a ≤ b → Le2 as bs → Le2 (a :: as) (b :: bs)
theorem early_le : ∀ (xs ps : List Int) (n : Nat), ps.Sublist (iota n xs.length) → Le2 (earlyG (ps.map (pickA xs n)) xs n) ps
  | [], ps, n, h => by
    have e : ps = [] := List.sublist_nil.mp h
    subst e
    exact .nil
  | x :: xs, ps, n, h => by
    have h' : ps.Sublist ((n : Int) :: iota (n + 1) xs.length) := h
    cases h' with
    | cons _ h1 =>
      rw [pickA_next (iota_ge h1)]
      cases ps with
      | nil =>
        rw [List.map_nil, earlyG_nil]
        exact .nil
      | cons p ps =>
        have hp := iota_ge h1 p (List.mem_cons_self ..)
        have ih := early_le xs (p :: ps) (n + 1) h1
        have ih2 := early_le xs ps (n + 1) ((List.sublist_cons_self p ps).trans h1)
        rw [List.map_cons] at ih ⊢
        unfold earlyG
        split
        · exact .cons (by omega) ih2
        · exact ih
    | @cons_cons qs _ _ h1 =>
      rw [List.map_cons, pickA_self, pickA_next (iota_ge h1)]
      unfold earlyG
      rw [if_pos rfl]
      exact .cons (Int.le_refl _) (early_le xs qs (n + 1) h1)
theorem early_some {rs xs : List Int} (h : rs.Sublist xs) : earlyD rs xs = T (earlyG rs xs 0) := by
  unfold earlyD
  have e := earlyF_eq rs xs 0 [] (Nat.zero_le _)
  simp at e
  rw [e, if_pos (early_full xs rs 0 h)]

theorem lc_hist (kinds : Int) (h0 : 0 < kinds) (h6 : kinds ≤ 6) (Q : QD) (s0 s2 s3 s5 s6 s7 s8 s9 s10 s11 : Slot) : ∀ (k : Nat) (n : Int) (acc : List Int) (s12 : Slot), acc.length + k ≤ 400 → (∀ x ∈ acc, 0 ≤ x ∧ x < 6) → (∀ hs : List Int, okR hs → Q (.lst (dI hs)) .own) →
    lcLoop [12] g1_law c1_law e1_law Q [s0, .val .box, s2, s3, .val (.int kinds), s5, s6, s7, s8, s9, s10, s11, s12] (rngF n k) (dI acc)
  | 0, n, acc, s12, hl, ha, q => by
    simp [rngF]
    exact q acc ⟨by omega, ha⟩
  | k + 1, n, acc, s12, hl, ha, q => by
    have ih := fun v (h : 0 ≤ v ∧ v < 6) => lc_hist kinds h0 h6 Q s0 s2 s3 s5 s6 s7 s8 s9 s10 s11 k (n + 1) (acc ++ [v]) s12 (by simp; omega) (fun x hx => by
      rcases List.mem_append.mp hx with hx | hx
      · exact ha x hx
      · have e : x = v := by simpa using hx
        rw [e]
        exact h) q
    simp [rngF, g1_law, c1_law, e1_law] at ih ⊢
    refine ⟨kinds, rfl, h0, by omega, fun v v0 v1 => ?_⟩
    simp
    refine ⟨by omega, ?_⟩
    have z := ih v v0 (by omega)
    simpa [dI] using z
theorem lc_row (xs : List Int) (Q : QD) (s0 s1 s2 s3 s4 s6 s7 s8 s9 s10 s11 : Slot) : ∀ (ps acc : List Int) (s12 : Slot), acc.length + ps.length ≤ 1000 → (∀ p ∈ ps, 0 ≤ p ∧ p < xs.length) → (Q (.lst (dI (acc ++ ps.map (pickA xs 0)))) .own) →
    lcLoop [12] g2_law c2_law e2_law Q [s0, s1, s2, s3, s4, .val (.tup (dI xs)), s6, s7, s8, s9, s10, s11, s12] (dI ps) (dI acc)
  | [], acc, s12, hl, hp, q => by simpa [dI] using q
  | p :: ps, acc, s12, hl, hp, q => by
    have hp0 := hp p (List.mem_cons_self ..)
    obtain ⟨n, rfl⟩ := Int.eq_ofNat_of_zero_le hp0.1
    have hn : n < xs.length := by omega
    have ih := lc_row xs Q s0 s1 s2 s3 s4 s6 s7 s8 s9 s10 s11 ps (acc ++ [xs[n]]) s12 (by simp at hl ⊢; omega) (fun x hx => hp x (List.mem_cons_of_mem _ hx)) (by
      have e : pickA xs 0 (n : Int) = xs[n] := by simp [pickA, hn]
      simpa [e] using q)
    simp [dI, g2_law, c2_law, e2_law, atI_nat, hn] at ih hl ⊢
    exact ⟨by omega, ih⟩
theorem lc_row2 (xs : List Int) (Q : QD) (s0 s1 s2 s3 s4 s5 s6 s8 s9 s10 s11 : Slot) : ∀ (ps acc : List Int) (s12 : Slot), acc.length + ps.length ≤ 1000 → (∀ p ∈ ps, 0 ≤ p ∧ p < xs.length) → (Q (.lst (dI (acc ++ ps.map (pickA xs 0)))) .own) →
    lcLoop [12] g4_law c4_law e4_law Q [s0, s1, s2, s3, s4, s5, s6, .val (.tup (dI xs)), s8, s9, s10, s11, s12] (dI ps) (dI acc)
  | [], acc, s12, hl, hp, q => by simpa [dI] using q
  | p :: ps, acc, s12, hl, hp, q => by
    have hp0 := hp p (List.mem_cons_self ..)
    obtain ⟨n, rfl⟩ := Int.eq_ofNat_of_zero_le hp0.1
    have hn : n < xs.length := by omega
    have ih := lc_row2 xs Q s0 s1 s2 s3 s4 s5 s6 s8 s9 s10 s11 ps (acc ++ [xs[n]]) s12 (by simp at hl ⊢; omega) (fun x hx => hp x (List.mem_cons_of_mem _ hx)) (by
      have e : pickA xs 0 (n : Int) = xs[n] := by simp [pickA, hn]
      simpa [e] using q)
    simp [dI, g4_law, c4_law, e4_law, atI_nat, hn] at ih hl ⊢
    exact ⟨by omega, ih⟩
theorem Le2.at : ∀ {as bs : List Int} {i : Nat}, Le2 as bs → i < bs.length → ∃ a b, as[i]? = some a ∧ bs[i]? = some b ∧ a ≤ b
  | _, _, i, .nil, hi => by simp at hi
  | _, _, 0, .cons h _, _ => ⟨_, _, rfl, rfl, h⟩
  | _, _, i + 1, .cons _ t, hi => by
    obtain ⟨a, b, e1, e2, e3⟩ := t.at (i := i) (by simpa using hi)
    exact ⟨a, b, by simpa using e1, by simpa using e2, e3⟩
theorem lc_less (ts ps : List Int) (hle : Le2 ts ps) (Q : QD) (s0 s1 s2 s3 s4 s5 s7 s9 s10 s11 : Slot) : ∀ (k n : Nat) (s12 : Slot), n + k = ps.length → (Q (.lst []) .own) →
    lcLoop [12] g3_law c3_law e3_law Q [s0, s1, s2, s3, s4, s5, .val (.lst (dI ps)), s7, .val (.tup (dI ts)), s9, s10, s11, s12] (rngF (n : Int) k) []
  | 0, n, s12, hn, q => by simpa [rngF] using q
  | k + 1, n, s12, hn, q => by
    have ih := lc_less ts ps hle Q s0 s1 s2 s3 s4 s5 s7 s9 s10 s11 k (n + 1) s12 (by omega) q
    obtain ⟨a, b, e1, e2, e3⟩ := hle.at (i := n) (by omega)
    have e4 : (dI ts)[n]? = some (.int a) := by rw [dI_get, e1]; rfl
    have e5 : (dI ps)[n]? = some (.int b) := by rw [dI_get, e2]; rfl
    simp [rngF, g3_law, c3_law, e3_law, atI_nat, e4, e5] at ih ⊢
    rw [if_neg (by omega)]
    exact ih
def p_law : PSp := fun ds Q _ => ∃ ns : List Int, ds = [.scr ns] ∧ ns.length ≤ 63 ∧ Q (.bl true) .frz
theorem cutG_take {α : Type} (xs : List α) {n : Int} (h : 0 ≤ n) : cutG xs none (some n) = xs.take n.toNat := by
  obtain ⟨k, rfl⟩ := Int.eq_ofNat_of_zero_le h
  unfold cutG
  show (xs.drop 0).take (HT.sIx xs.length xs.length (some (k : Int)) - 0) = _
  rw [HT.sIx_nat]
  simp
theorem okR_set {xs : List Int} {j : Nat} {w : Int} (h : okR xs) (h0 : 0 ≤ w) (h6 : w < 6) : okR (xs.set j w) := ⟨by rw [List.length_set]; exact h.1, fun x hx => by
  rcases List.mem_or_eq_of_mem_set hx with hx | rfl
  · exact h.2 x hx
  · exact ⟨h0, h6⟩⟩
theorem dI_snoc {xs : List Int} {v : Int} : dI xs ++ [D.int v] = dI (xs ++ [v]) := by simp [dI]
theorem dI_set {xs : List Int} {v : Int} {j : Nat} : (dI xs).set j (.int v) = dI (xs.set j v) := by simp [dI]
theorem okR_cut {xs : List Int} (h : ∀ x ∈ xs, 0 ≤ x ∧ x < 6) : okR (cutG xs none (some 400)) := ⟨by
  rw [cutG_take xs (by decide), List.length_take]
  exact Nat.min_le_left _ _, fun x hx => h x (cutG_mem hx)⟩
theorem wSeq_at {a b : WS} {De : EndD} {env : Sls} : wSeq a b De env = a { De with nx := b De } env := rfl
theorem fNe_L0 {Q : QD} : fEqD true (.lst []) (.lst []) Q = Q (.bl false) .frz := by
  refine propext ⟨fun ⟨_, _, _, _, q⟩ => ?_, fun q => fEqD_of (n := 1) (m := 1) (Sh.L (xs := [])) (Sh.L (xs := [])) ?_⟩
  · have z := eqD_L [] []
    unfold eqD L dI at z
    simp at z
    rw [z] at q
    simpa using q
  · have z := eqD_L [] []
    unfold L dI at z
    simp at z
    rw [z]
    simpa using q
theorem okR_sub {xs ys : List Int} (h : okR ys) (hs : xs.Sublist ys) : okR xs := ⟨Nat.le_trans hs.length_le h.1, fun x hx => h.2 x (hs.subset hx)⟩
theorem iota_len : ∀ (k n : Nat), (iota n k).length = k
  | 0, n => rfl
  | k + 1, n => by simp [iota, iota_len k]
theorem asked_ok {xs ys : List Int} {Q : QD} {E : XD} (hx : okR xs) (hy : okR ys) (q : Q (.bl true) .frz) : p_ulaw_asked [.box, .tup (dI xs), .tup (dI ys)] Q E := ⟨xs, ys, rfl, hx, hy, q⟩
theorem asked_nil {ys : List Int} {Q : QD} {E : XD} (hy : okR ys) (q : Q (.bl true) .frz) : p_ulaw_asked [.box, .tup [], .tup (dI ys)] Q E := ⟨[], ys, rfl, ⟨by simp, fun x h => by cases h⟩, hy, q⟩
theorem pickT {xs ys : List Int} {Q : QD} {E : XD} (hx : okR xs) (hy : okR ys) (q : Q (earlyD xs ys) .frz) : p_picked [.tup (dI xs), .tup (dI ys)] Q E := picked_ok hx hy (.inl rfl) (.inl rfl) q
theorem turn_law (ns : List Int) (s2 s3 s4 s5 s6 s7 s8 s9 s10 s11 s12 : Slot) (De : EndD) (h : ∀ (hist : List Int) (s2 s3 s4 s6 s7 s8 s9 s10 s11 s12 : Slot), okR hist → De.nx [.val (.scr ns), .val .box, s2, s3, s4, .val (T hist), s6, s7, s8, s9, s10, s11, s12]) :
    b1_law De [.val (.scr ns), .val .box, s2, s3, s4, s5, s6, s7, s8, s9, s10, s11, s12] := by
  unfold b1_law
  rw [wSeq_at]
  simp [-lcLoop, -wSeq]
  refine ⟨[.int 1, .int 2, .int 2, .int 3, .int 6], rfl, by simp, by simp, fun x hx => ?_⟩
  obtain ⟨kinds, rfl, k0, k6⟩ : ∃ k : Int, x = .int k ∧ 0 < k ∧ k ≤ 6 := by
    simp at hx
    rcases hx with rfl | rfl | rfl | rfl <;> exact ⟨_, rfl, by omega, by omega⟩
  clear hx
  simp [-lcLoop, -wSeq]
  rw [wSeq_at]
  simp [-lcLoop, -wSeq]
  refine ⟨[.int 6, .int 40, .int 401], rfl, by simp, by simp, fun x hx => ?_⟩
  obtain ⟨m, rfl, m0, m1⟩ : ∃ k : Int, x = .int k ∧ 0 < k ∧ k ≤ 401 := by
    simp at hx
    rcases hx with rfl | rfl | rfl <;> exact ⟨_, rfl, by omega, by omega⟩
  clear hx
  simp [-lcLoop, -wSeq]
  refine ⟨m, rfl, m0, by omega, fun j j0 j1 => ?_⟩
  simp [-lcLoop, -wSeq, rangeD_eq]
  refine ⟨⟨by omega, by omega⟩, lc_hist kinds k0 k6 _ _ _ _ _ _ _ _ _ _ _ j.toNat 0 [] _ (by simp; omega) (by simp) fun hist hh => ?_⟩
  have hlen := hh.1
  simp [-lcLoop, -wSeq]
  rw [wSeq_at]
  simp [-lcLoop, -wSeq]
  refine ⟨hist, rfl, by omega, fun spots hsp => ?_⟩
  have hspot : ∀ p ∈ spots, 0 ≤ p ∧ p < (hist.length : Int) := fun p hp => by
    have := iota_mem (hsp.subset hp)
    omega
  have hsl : spots.length ≤ hist.length := by
    have := hsp.length_le
    rw [iota_len] at this
    exact this
  simp [-lcLoop, -wSeq, L]
  rw [wSeq_at]
  simp [-lcLoop, -wSeq]
  refine lc_row hist _ _ _ _ _ _ _ _ _ _ _ _ spots [] _ (by simp; omega) hspot ?_
  have hsub := pick_sub hist spots 0 hsp
  have hle := early_le hist spots 0 hsp
  generalize hrow : spots.map (pickA hist 0) = row at hsub hle
  have hr := okR_sub hh hsub
  simp [-lcLoop, -wSeq, hrow]
  rw [wSeq_at]
  simp [-lcLoop, -wSeq]
  refine asked_ok hr hh ?_
  simp [-lcLoop, -wSeq]
  refine asked_ok hh hh ?_
  simp [-lcLoop, -wSeq]
  refine asked_nil hh ?_
  simp [-lcLoop, -wSeq]
  rw [wSeq_at]
  simp [-lcLoop, -wSeq]
  refine pickT hr hh ?_
  rw [early_some hsub]
  simp [-lcLoop, -wSeq, T]
  rw [wSeq_at]
  simp [-lcLoop, -wSeq, gIs, rangeD_eq]
  refine ⟨⟨by omega, by omega⟩, lc_less _ spots hle _ _ _ _ _ _ _ _ _ _ _ spots.length 0 _ (by simp) ?_⟩
  simp [-lcLoop, -wSeq, fNe_L0]
  rw [wSeq_at]
  simp [-lcLoop, -wSeq]
  have hrl := hr.1
  refine ⟨row, rfl, by omega, fun spots2 hsp2 => ?_⟩
  have hspot2 : ∀ p ∈ spots2, 0 ≤ p ∧ p < (row.length : Int) := fun p hp => by
    have := iota_mem (hsp2.subset hp)
    omega
  have hsl2 : spots2.length ≤ row.length := by
    have := hsp2.length_le
    rw [iota_len] at this
    exact this
  simp [-lcLoop, -wSeq, L]
  refine lc_row2 row _ _ _ _ _ _ _ _ _ _ _ _ spots2 [] _ (by simp; omega) hspot2 ?_
  have hsub2 := pick_sub row spots2 0 hsp2
  generalize hpart : spots2.map (pickA row 0) = part at hsub2
  have hp := okR_sub hr hsub2
  simp [-lcLoop, -wSeq, hpart]
  rw [wSeq_at]
  simp [-lcLoop, -wSeq]
  refine pickT hp hr ?_
  rw [early_some hsub2]
  simp [-lcLoop, -wSeq, gIs, T]
  refine pickT hp hh ?_
  rw [early_some (hsub2.trans hsub)]
  simp [-lcLoop, -wSeq, gIs, T]
  refine asked_ok hp hr ?_
  simp [-lcLoop, -wSeq]
  rw [wSeq_at]
  simp [-lcLoop, -wSeq, cutD_dI, cutG_take]
  refine ⟨6, rfl, by omega, by omega, fun v v0 v1 => ?_⟩
  have ht : okR (row.take 399 ++ [v]) := ⟨by simp; omega, fun x hx => by
    rcases List.mem_append.mp hx with hx | hx
    · exact hr.2 x (List.mem_of_mem_take hx)
    · have e : x = v := by simpa using hx
      rw [e]
      exact ⟨v0, v1⟩⟩
  have htl : 0 < (row.take 399 ++ [v]).length := by simp
  simp [-lcLoop, -wSeq, dI_snoc, -List.length_append]
  generalize row.take 399 ++ [v] = t at ht htl
  have htl2 := ht.1
  refine ⟨by omega, ?_⟩
  rw [wSeq_at]
  simp [-lcLoop, -wSeq]
  refine ⟨6, rfl, by omega, by omega, fun w w0 w1 => ?_⟩
  simp [-lcLoop, -wSeq]
  refine ⟨t.length, rfl, by omega, by omega, fun q q0 q1 => ?_⟩
  obtain ⟨j, rfl⟩ := Int.eq_ofNat_of_zero_le q0
  have hj : j < t.length := by omega
  simp [-lcLoop, -wSeq, hj, dI_set]
  have ht' := okR_set (j := j) ht w0 w1
  have htl' : 0 < (t.set j w).length := by rw [List.length_set]; exact htl
  generalize t.set j w = u at ht' htl'
  have hul := ht'.1
  rw [wSeq_at]
  simp [-lcLoop, -wSeq]
  refine ⟨u.length, rfl, by omega, by omega, fun o o0 o1 => ?_⟩
  simp [-lcLoop, -wSeq]
  rw [wSeq_at]
  simp [-lcLoop, -wSeq]
  refine asked_ok ht' hh ?_
  simp [-lcLoop, -wSeq, cutD_dI]
  have hl1 := cutG_len u (some o) none
  have hl2 := cutG_len u none (some o)
  refine ⟨by omega, ?_⟩
  have hm : ∀ x ∈ cutG u (some o) none ++ cutG u none (some o), 0 ≤ x ∧ x < 6 := fun x hx => by
    rcases List.mem_append.mp hx with hx | hx
    · exact ht'.2 x (cutG_mem hx)
    · exact ht'.2 x (cutG_mem hx)
  rw [dI_app, cutD_dI]
  refine asked_ok (okR_cut hm) hh ?_
  simp [-lcLoop, -wSeq]
  refine asked_ok hh hr ?_
  simp [-lcLoop, -wSeq, cutD_dI]
  have hcu := okR_cut ht'.2
  refine pickT hcu hr ?_
  simp [-lcLoop, -wSeq]
  refine ⟨_, row, rfl, by omega, ?_⟩
  simp [-lcLoop, -wSeq]
  refine ⟨_, rfl, sized_early _ row (by omega) 1, ?_⟩
  simp [-lcLoop, -wSeq]
  exact h hist _ _ _ _ _ _ _ _ _ _ hh
theorem fEq_refl {neg : Bool} {d : D} {Q : QD} {n : Nat} (h : Sh n d) (hn : n ≤ 64) (q : Q (.bl (neg ^^ true)) .frz) : fEqD neg d d Q := ⟨h.pl, h.pl, h.ok hn, h.ok hn, by rw [SeqAt.eqv_refl _ h.cl]; exact q⟩
theorem Sh.str {n : Nat} {z : Str} (h : PyData.strOk z = true) : Sh n (.str z) := ⟨rfl, by simp [pd, PyData.canLay0, h], by simp [pd, PyData.depth]⟩
theorem Sh.ht (i : Int) : Sh 1 (.tup [.str "history", .int i]) := Sh.tup fun d hd => by
  simp at hd
  rcases hd with rfl | rfl
  · exact Sh.str (by decide +kernel)
  · exact Sh.int
theorem Sh.told : Sh 1 (.tup [.str "told"]) := Sh.tup fun d hd => by
  simp at hd
  subst hd
  exact Sh.str (by decide +kernel)
def isBad (x : D) : Prop := plain x = true ∧ isNon (histWrong x 6) = false
theorem bad_all (x : D) (h : x ∈ ([.lst [.int 6], .lst [.int 0, .int (-1)], .tup [.non], .lst [.bl true], .lst [.str "0"], .lst [.tup [.int 0]], .non, .int 3, .str "0", .lst (List.replicate 401 (D.int 0))] : List D)) : isBad x := by
  simp only [List.mem_cons, List.not_mem_nil, or_false] at h
  rcases h with rfl | rfl | rfl | rfl | rfl | rfl | rfl | rfl | rfl | rfl
  all_goals first
    | exact ⟨by decide, by decide⟩
    | (refine ⟨?_, ?_⟩
       · have e : (List.replicate 401 (D.int 0)) = dI (List.replicate 401 0) := by simp [dI]
         rw [e]
         exact plL _
       · simp [histWrong, isSq])
theorem imp_law (ds : List D) (Q : QD) (E : XD) (h : p_law ds Q E) : q_law ds Q E := by
  obtain ⟨ns, rfl, hl, q⟩ := h
  unfold q_law w_law specOf
  rw [wSeq_at]
  simp [-wSeq, -wLoop]
  refine ⟨ns, rfl, hl, ?_⟩
  simp [-wSeq, -wLoop]
  rw [wSeq_at]
  simp [-wSeq, -wLoop]
  refine ⟨⟨by omega, by omega⟩, ?_⟩
  show wLoop g5_law b1_law _ [.int 0, .int 1, .int 2] _
  have step : ∀ (De : EndD) (d : D) (s2 s3 s4 s5 s6 s7 s8 s9 s10 s11 s12 : Slot), (∀ (hist : List Int) (s2 s3 s4 s6 s7 s8 s9 s10 s11 s12 : Slot), okR hist → De.nx [.val (.scr ns), .val .box, s2, s3, s4, .val (T hist), s6, s7, s8, s9, s10, s11, s12]) →
      g5_law d [.val (.scr ns), .val .box, s2, s3, s4, s5, s6, s7, s8, s9, s10, s11, s12] (fun env => b1_law De env) := fun De d s2 s3 s4 s5 s6 s7 s8 s9 s10 s11 s12 h => by
    simp [g5_law]
    exact turn_law ns _ _ _ _ _ _ _ _ _ _ _ De h
  unfold wLoop
  refine step _ _ _ _ _ _ _ _ _ _ _ _ _ fun h1 _ _ _ _ _ _ _ _ _ _ _ => ?_
  unfold wLoop
  refine step _ _ _ _ _ _ _ _ _ _ _ _ _ fun h2 _ _ _ _ _ _ _ _ _ _ _ => ?_
  unfold wLoop
  refine step _ _ _ _ _ _ _ _ _ _ _ _ _ fun hist _ _ _ _ _ _ _ _ _ _ hh => ?_
  unfold wLoop
  simp [-wSeq]
  rw [wSeq_at]
  simp [-wSeq, gSub]
  refine ⟨_, rfl, by simp, by simp, fun bad hb => ?_⟩
  have hbad := bad_all bad (by simpa using hb)
  simp [-wSeq]
  rw [wSeq_at]
  simp [-wSeq, T]
  refine ⟨[bad, .lst [.int 0], .tup []], rfl, by simp, by simp, fun x hx => ?_⟩
  have hpx : plain x = true := by
    simp at hx
    rcases hx with rfl | rfl | rfl
    · exact hbad.1
    · rfl
    · rfl
  simp [-wSeq]
  refine ⟨bad, x, rfl, hbad.1, hpx, fun _ => ?_, fun z => ?_, fun z => ?_⟩
  · simp [-wSeq]
    refine fEq_refl (Sh.ht 0) (by decide) ?_
    simp [-wSeq]
    refine ⟨T hist, bad, rfl, plT _, hbad.1, fun z => ?_, fun _ _ => ?_, fun _ z => ?_⟩
    · rw [(hwT hh).1] at z; cases z
    · simp [-wSeq]
      refine fEq_refl (Sh.ht 1) (by decide) ?_
      simp [-wSeq]
      have o4 : ∀ i : Int, 0 ≤ i → i < 6 → okR (List.replicate 400 i) := fun i h0 h6 => ⟨by simp, fun x hx => by
        rw [(List.mem_replicate.mp hx).2]
        exact ⟨h0, h6⟩⟩
      have e4 : ∀ i : Int, List.replicate 400 (D.int i) = dI (List.replicate 400 i) := fun i => by simp [dI]
      refine ⟨L (List.replicate 400 0), T (List.replicate 400 5), ?_, plL _, plT _, fun z => ?_, fun _ z => ?_, fun _ _ => ?_⟩
      · rfl
      · rw [(hwT (o4 0 (by decide) (by decide))).2] at z; cases z
      · rw [(hwT (o4 5 (by decide) (by decide))).1] at z; cases z
      · simp [-wSeq]
        refine fEq_refl Sh.told (by decide) ?_
        simpa using q
    · rw [hbad.2] at z; cases z
  · rw [hbad.2] at z; cases z
  · rw [hbad.2] at z; cases z
theorem fo_law {P : Program} {wd : World} {K : PySem.W.Frag} {mg : Str → Option Value} {base : Heap} {f : Addr} {fd : FuncData} (G : Gx P K mg) (c_picked : FnAt P wd K mg base boxA 5 "picked" 2 p_picked) (c_ulaw_box : FnAt P wd K mg base boxA 1 "_law_box" 1 p_ulaw_box) (c_ulaw_draw : FnAt P wd K mg base boxA 1 "_law_draw" 2 p_ulaw_draw) (c_ulaw_pick : FnAt P wd K mg base boxA 2 "_law_pick" 2 p_ulaw_pick) (c_ulaw_same : FnAt P wd K mg base boxA 5 "_law_same" 2 (p_ulaw_same 3)) (c_ulaw_early : FnAt P wd K mg base boxA 1 "_law_early" 2 p_ulaw_early) (c_ulaw_asked : FnAt P wd K mg base boxA 6 "_law_asked" 3 p_ulaw_asked) (c_ulaw_some : FnAt P wd K mg base boxA 3 "_law_some" 2 p_ulaw_some) (c_ulaw_refused : FnAt P wd K mg base boxA 6 "_law_refused" 2 p_ulaw_refused) (F : FnP K "law" 26 f fd) (m : mg "law" = some (.ref f)) : FnOk P wd K mg base (L2N.CX P wd) 7 f fd ["script"] (spOf K mg boxA 1 p_law) := by
  have sc := sc_law
  exact (fn_body (k := 6) (N := ["script", "box", "turn", "bad", "kinds", "history", "spots", "row", "told", "part", "turned", "other", "at"]) (ps := ["script"]) (w := w_law) F sc (fun cdv A outer s H E R0 hr tk pw => (sss_cons (ss_set (i := 1) sc.nd (se_call c_ulaw_box (hr.mono (by decide)) tk rfl (sa_cons (se_pv 0) sa_nil))) (sss_cons (ss_for (ts := [2]) pw rfl (si_range1 rfl G.b_range (sa_cons se_int sa_nil)) (sg_name sc.nd) (sss_cons (ss_frz [1] (ss_set (i := 4) sc.nd (se_call c_ulaw_pick (hr.mono (by decide)) tk rfl (sa_cons (se_pv 1) (sa_cons (se_lst (sa_cons se_int (sa_cons se_int (sa_cons se_int (sa_cons se_int (sa_cons se_int sa_nil)))))) sa_nil))))) (sss_cons (ss_frz [1, 4] (ss_set (i := 5) sc.nd (se_callTy call_tuple_of bltTuple rfl G.b_tuple bt_tuple (sa_cons (se_lc rfl sc.nd (own := [(("at" : Str), 12)]) (ts := [12]) (si_range1 rfl G.b_range (sa_cons (se_call c_ulaw_draw (hr.mono (by decide)) tk rfl (sa_cons (se_pv 1) (sa_cons (se_call c_ulaw_pick (hr.mono (by decide)) tk rfl (sa_cons (se_pv 1) (sa_cons (se_lst (sa_cons se_int (sa_cons se_int (sa_cons se_int sa_nil)))) sa_nil))) sa_nil))) sa_nil)) (blk_ok (N := ["script", "box", "turn", "bad", "kinds", "history", "spots", "row", "told", "part", "turned", "other", "at"]) (sc := defScope (top 26)) (by decide +kernel)) (fun _ _ _ _ _ => (sg_name sc.nd)) (fun _ _ _ _ _ => sts_nil) (fun _ _ _ _ _ => (se_call c_ulaw_draw (hr.mono (by decide)) takes_no rfl (sa_cons (se_pv 1) (sa_cons (se_pv 4) sa_nil))))) sa_nil)))) (sss_cons (ss_frz [1, 5] (ss_set (i := 6) sc.nd (se_call c_ulaw_some (hr.mono (by decide)) tk rfl (sa_cons (se_pv 1) (sa_cons (se_pv 5) sa_nil))))) (sss_cons (ss_frz [6] (ss_set (i := 7) sc.nd (se_callTy call_tuple_of bltTuple rfl G.b_tuple bt_tuple (sa_cons (se_lc rfl sc.nd (own := [(("at" : Str), 12)]) (ts := [12]) (si_seq (se_pv 6)) (blk_ok (N := ["script", "box", "turn", "bad", "kinds", "history", "spots", "row", "told", "part", "turned", "other", "at"]) (sc := defScope (top 26)) (by decide +kernel)) (fun _ _ _ _ _ => (sg_name sc.nd)) (fun _ _ _ _ _ => sts_nil) (fun _ _ _ _ _ => (se_ix ix_seq bIx (se_pv 5) (se_pv 12) fun _ _ => rfl))) sa_nil)))) (sss_cons (ss_frz [1, 5, 7] (ss_if (st_bool (sw_or (st_not (st_tru (se_call c_ulaw_asked (hr.mono (by decide)) tk rfl (sa_cons (se_pv 1) (sa_cons (se_pv 7) (sa_cons (se_pv 5) sa_nil)))))) (sw_or (st_not (st_tru (se_call c_ulaw_asked (hr.mono (by decide)) tk rfl (sa_cons (se_pv 1) (sa_cons (se_pv 5) (sa_cons (se_pv 5) sa_nil)))))) (sw_one (st_not (st_tru (se_call c_ulaw_asked (hr.mono (by decide)) tk rfl (sa_cons (se_pv 1) (sa_cons (se_tup sa_nil) (sa_cons (se_pv 5) sa_nil)))))))))) (sss_one (ss_ret se_bl)) sss_nil)) (sss_cons (ss_frz [5, 7] (ss_set (i := 8) sc.nd (se_call c_picked (hr.mono (by decide)) tk rfl (sa_cons (se_pv 7) (sa_cons (se_pv 5) sa_nil))))) (sss_cons (ss_if (st_bool (sw_or (st_cmp op_isN bIs (se_pv 8) se_non rfl) (sw_one (st_cmp (op_neD hr.units) bNe (se_lc rfl sc.nd (own := [(("at" : Str), 12)]) (ts := [12]) (si_range1 rfl G.b_range (sa_cons (se_callB call_len bltLen rfl G.b_len bt_len (sa_cons (se_pv 6) sa_nil)) sa_nil)) (blk_ok (N := ["script", "box", "turn", "bad", "kinds", "history", "spots", "row", "told", "part", "turned", "other", "at"]) (sc := defScope (top 26)) (by decide +kernel)) (fun _ _ _ _ _ => (sg_name sc.nd)) (fun _ _ _ _ _ => (sts_one (st_cmp op_gt bGt (se_ix ix_seq bIx (se_pv 8) (se_pv 12) fun _ _ => rfl) (se_ix ix_seq bIx (se_pv 6) (se_pv 12) fun _ _ => rfl) rfl))) (fun _ _ _ _ _ => (se_pv 12))) (se_lst sa_nil) rfl)))) (sss_one (ss_ret se_bl)) sss_nil) (sss_cons (ss_frz [1, 7] (ss_set (i := 9) sc.nd (se_callTy call_tuple_of bltTuple rfl G.b_tuple bt_tuple (sa_cons (se_lc rfl sc.nd (own := [(("at" : Str), 12)]) (ts := [12]) (si_seq (se_call c_ulaw_some (hr.mono (by decide)) tk rfl (sa_cons (se_pv 1) (sa_cons (se_pv 7) sa_nil)))) (blk_ok (N := ["script", "box", "turn", "bad", "kinds", "history", "spots", "row", "told", "part", "turned", "other", "at"]) (sc := defScope (top 26)) (by decide +kernel)) (fun _ _ _ _ _ => (sg_name sc.nd)) (fun _ _ _ _ _ => sts_nil) (fun _ _ _ _ _ => (se_ix ix_seq bIx (se_pv 7) (se_pv 12) fun _ _ => rfl))) sa_nil)))) (sss_cons (ss_frz [1, 5, 7, 9] (ss_if (st_bool (sw_or (st_cmp op_isN bIs (se_call c_picked (hr.mono (by decide)) tk rfl (sa_cons (se_pv 9) (sa_cons (se_pv 7) sa_nil))) se_non rfl) (sw_or (st_cmp op_isN bIs (se_call c_picked (hr.mono (by decide)) tk rfl (sa_cons (se_pv 9) (sa_cons (se_pv 5) sa_nil))) se_non rfl) (sw_one (st_not (st_tru (se_call c_ulaw_asked (hr.mono (by decide)) tk rfl (sa_cons (se_pv 1) (sa_cons (se_pv 9) (sa_cons (se_pv 7) sa_nil)))))))))) (sss_one (ss_ret se_bl)) sss_nil)) (sss_cons (ss_frz [1] (ss_set (i := 10) sc.nd (se_op oAdd bAdd (se_slice (se_callTy call_list_of bltList rfl G.b_list bt_list (sa_cons (se_pv 7) sa_nil)) so_none (so_some se_int)) (se_lst (sa_cons (se_call c_ulaw_draw (hr.mono (by decide)) tk rfl (sa_cons (se_pv 1) (sa_cons se_int sa_nil))) sa_nil))))) (sss_cons (ss_frz [1] (ss_setIx 10 (se_call c_ulaw_draw (hr.mono (by decide)) tk rfl (sa_cons (se_pv 1) (sa_cons se_int sa_nil))) (se_call c_ulaw_draw (hr.mono (by decide)) tk rfl (sa_cons (se_pv 1) (sa_cons (se_callB call_len bltLen rfl G.b_len bt_len (sa_cons (se_pv 10) sa_nil)) sa_nil))))) (sss_cons (ss_frz [1] (ss_set (i := 11) sc.nd (se_call c_ulaw_draw (hr.mono (by decide)) tk rfl (sa_cons (se_pv 1) (sa_cons (se_callB call_len bltLen rfl G.b_len bt_len (sa_cons (se_pv 10) sa_nil)) sa_nil))))) (sss_cons (ss_frz [1, 5] (ss_if (st_bool (sw_or (st_not (st_tru (se_call c_ulaw_asked (hr.mono (by decide)) tk rfl (sa_cons (se_pv 1) (sa_cons (se_callTy call_tuple_of bltTuple rfl G.b_tuple bt_tuple (sa_cons (se_pv 10) sa_nil)) (sa_cons (se_pv 5) sa_nil)))))) (sw_one (st_not (st_tru (se_call c_ulaw_asked (hr.mono (by decide)) tk rfl (sa_cons (se_pv 1) (sa_cons (se_slice (se_callTy call_tuple_of bltTuple rfl G.b_tuple bt_tuple (sa_cons (se_op oAdd bAdd (se_slice (se_pv 10) (so_some (se_pv 11)) so_none) (se_slice (se_pv 10) so_none (so_some (se_pv 11)))) sa_nil)) so_none (so_some se_int)) (sa_cons (se_pv 5) sa_nil))))))))) (sss_one (ss_ret se_bl)) sss_nil)) (sss_one (ss_frz [1, 5, 7] (ss_if (st_bool (sw_or (st_not (st_tru (se_call c_ulaw_asked (hr.mono (by decide)) tk rfl (sa_cons (se_pv 1) (sa_cons (se_pv 5) (sa_cons (se_pv 7) sa_nil)))))) (sw_one (st_not (st_tru (se_call c_ulaw_same (hr.mono (by decide)) tk rfl (sa_cons (se_call c_picked (hr.mono (by decide)) tk rfl (sa_cons (se_callTy call_tuple_of bltTuple rfl G.b_tuple bt_tuple (sa_cons (se_slice (se_pv 10) so_none (so_some se_int)) sa_nil)) (sa_cons (se_pv 7) sa_nil))) (sa_cons (se_call c_ulaw_early (hr.mono (by decide)) tk rfl (sa_cons (se_callTy call_tuple_of bltTuple rfl G.b_tuple bt_tuple (sa_cons (se_slice (se_pv 10) so_none (so_some se_int)) sa_nil)) (sa_cons (se_pv 7) sa_nil))) sa_nil)))))))) (sss_one (ss_ret se_bl)) sss_nil))))))))))))))))) (sss_cons (ss_frz [1] (ss_set (i := 3) sc.nd (se_call c_ulaw_pick (hr.mono (by decide)) tk rfl (sa_cons (se_pv 1) (sa_cons (se_lst (sa_cons (se_lst (sa_cons se_int sa_nil)) (sa_cons (se_lst (sa_cons se_int (sa_cons (se_op op_sub bSub se_int se_int) sa_nil))) (sa_cons (se_tup (sa_cons se_non sa_nil)) (sa_cons (se_lst (sa_cons se_bl sa_nil)) (sa_cons (se_lst (sa_cons se_str sa_nil)) (sa_cons (se_lst (sa_cons (se_tup (sa_cons se_int sa_nil)) sa_nil)) (sa_cons se_non (sa_cons se_int (sa_cons se_str (sa_cons (se_op oMul bMul (se_lst (sa_cons se_int sa_nil)) se_int) sa_nil))))))))))) sa_nil))))) (sss_cons (ss_frz [1, 3, 5] (ss_if (st_bool (sw_or (st_cmp (op_neD hr.units) bNe (se_call c_ulaw_refused (hr.mono (by decide)) tk rfl (sa_cons (se_pv 3) (sa_cons (se_call c_ulaw_pick (hr.mono (by decide)) tk rfl (sa_cons (se_pv 1) (sa_cons (se_lst (sa_cons (se_pv 3) (sa_cons (se_lst (sa_cons se_int sa_nil)) (sa_cons (se_tup sa_nil) sa_nil)))) sa_nil))) sa_nil))) (se_tup (sa_cons se_str (sa_cons se_int sa_nil))) rfl) (sw_one (st_cmp (op_neD hr.units) bNe (se_call c_ulaw_refused (hr.mono (by decide)) tk rfl (sa_cons (se_pv 5) (sa_cons (se_pv 3) sa_nil))) (se_tup (sa_cons se_str (sa_cons se_int sa_nil))) rfl)))) (sss_one (ss_ret se_bl)) sss_nil)) (sss_one (ss_ret (se_cmp (op_eqD hr.units) bEq (se_call c_ulaw_refused (hr.mono (by decide)) tk rfl (sa_cons (se_op oMul bMul (se_lst (sa_cons se_int sa_nil)) se_int) (sa_cons (se_op oMul bMul (se_tup (sa_cons se_int sa_nil)) se_int) sa_nil))) (se_tup (sa_cons se_str sa_nil)) rfl))))))))).imp fun vs H Q E q => spOf_imp (fun ds Q E h => imp_law ds Q E h) q
/-! ### the head -/
def i_InvalidHistory : InD := { cls := "InvalidHistory", par := "at", msg := (PySem.Str.ofString "wrong: a history"), qual := "InvalidHistory.__init__", p1 := ⟨6, 17, 6, 21⟩, p2 := ⟨6, 23, 6, 25⟩, q := fun i => ([⟨7, 8, 7, 13⟩, ⟨7, 8, 7, 15⟩, ⟨7, 8, 7, 24⟩, ⟨7, 25, 7, 43⟩, ⟨7, 8, 7, 44⟩, ⟨7, 8, 7, 44⟩, ⟨8, 8, 8, 12⟩, ⟨8, 8, 8, 15⟩, ⟨8, 18, 8, 20⟩, ⟨8, 8, 8, 20⟩] : List Pos).getD i ⟨0, 0, 0, 0⟩ }
def inds : List InD := [i_InvalidHistory]
def d_is_integer : He.DefD := ⟨("is_integer", none), "is_integer", "is_integer", defArgs (top 4), defBody (top 4), defScope (top 4), [], []⟩
def d_is_below : He.DefD := ⟨("is_below", none), "is_below", "is_below", defArgs (top 5), defBody (top 5), defScope (top 5), [], []⟩
def d_is_sequence : He.DefD := ⟨("is_sequence", none), "is_sequence", "is_sequence", defArgs (top 6), defBody (top 6), defScope (top 6), [], []⟩
def d_history_wrong : He.DefD := ⟨("history_wrong", none), "history_wrong", "history_wrong", defArgs (top 10), defBody (top 10), defScope (top 10), [], []⟩
def d_need_rows : He.DefD := ⟨("need_rows", none), "need_rows", "need_rows", defArgs (top 11), defBody (top 11), defScope (top 11), [], []⟩
def d_early_places : He.DefD := ⟨("early_places", none), "early_places", "early_places", defArgs (top 13), defBody (top 13), defScope (top 13), [], []⟩
def d_picked : He.DefD := ⟨("picked", none), "picked", "picked", defArgs (top 14), defBody (top 14), defScope (top 14), [], []⟩
def d_ulaw_box : He.DefD := ⟨("_law_box", none), "_law_box", "_law_box", defArgs (top 16), defBody (top 16), defScope (top 16), [], []⟩
def d_ulaw_draw : He.DefD := ⟨("_law_draw", none), "_law_draw", "_law_draw", defArgs (top 17), defBody (top 17), defScope (top 17), [], []⟩
def d_ulaw_pick : He.DefD := ⟨("_law_pick", none), "_law_pick", "_law_pick", defArgs (top 18), defBody (top 18), defScope (top 18), [], []⟩
def d_ulaw_is_int : He.DefD := ⟨("_law_is_int", none), "_law_is_int", "_law_is_int", defArgs (top 19), defBody (top 19), defScope (top 19), [], []⟩
def d_ulaw_place : He.DefD := ⟨("_law_place", none), "_law_place", "_law_place", defArgs (top 20), defBody (top 20), defScope (top 20), [], []⟩
def d_ulaw_same : He.DefD := ⟨("_law_same", none), "_law_same", "_law_same", defArgs (top 21), defBody (top 21), defScope (top 21), [], []⟩
def d_ulaw_early : He.DefD := ⟨("_law_early", none), "_law_early", "_law_early", defArgs (top 22), defBody (top 22), defScope (top 22), [], []⟩
def d_ulaw_asked : He.DefD := ⟨("_law_asked", none), "_law_asked", "_law_asked", defArgs (top 23), defBody (top 23), defScope (top 23), [], []⟩
def d_ulaw_some : He.DefD := ⟨("_law_some", none), "_law_some", "_law_some", defArgs (top 24), defBody (top 24), defScope (top 24), [], []⟩
def d_ulaw_refused : He.DefD := ⟨("_law_refused", none), "_law_refused", "_law_refused", defArgs (top 25), defBody (top 25), defScope (top 25), [], []⟩
def d_law : He.DefD := ⟨("law", none), "law", "law", defArgs (top 26), defBody (top 26), defScope (top 26), [], []⟩
def fns : List He.DefD := [d_is_integer, d_is_below, d_is_sequence, d_history_wrong, d_need_rows, d_early_places, d_picked, d_ulaw_box, d_ulaw_draw, d_ulaw_pick, d_ulaw_is_int, d_ulaw_place, d_ulaw_same, d_ulaw_early, d_ulaw_asked, d_ulaw_some, d_ulaw_refused, d_law]
def fas : List He.Fa := [.glo "is_integer", .glo "is_below", .glo "is_sequence", .glo "history_wrong", .glo "need_rows", .glo "early_places", .glo "picked", .glo "_law_box", .glo "_law_draw", .glo "_law_pick", .glo "_law_is_int", .glo "_law_place", .glo "_law_same", .glo "_law_early", .glo "_law_asked", .glo "_law_some", .glo "_law_refused", .glo "law", .glo "InvalidHistory", .free "abs", .free "bool", .free "enumerate", .free "int", .free "isinstance", .free "len", .free "list", .free "range", .free "str", .free "super", .free "tuple", .int "MOST_KINDS" 6, .int "MOST_VISITS" 400]
def exs (K : PySem.W.Frag) : Bool := clauseB K "InvalidHistory" tab_InvalidHistory && (fieldB K "at" tab_InvalidHistory && (true))
theorem gx {K : PySem.W.Frag} {mg : Str → Option Value} {h : Heap} (X : K.In h) (G : h.Ns mainGlobals mg) (c : SaysK PySem.Challenge.pw_keepnothing_k12_whole_rows_picked_out fas fns inds exs K) : Gx PySem.Challenge.pw_keepnothing_k12_whole_rows_picked_out K mg := by
  have e := c.e
  obtain ⟨e0, e⟩ := ba e
  obtain ⟨e1, e⟩ := ba e
  exact {
    b_abs := He.free_ok X G (c.d.fact 19 (f := .free "abs") rfl)
    b_bool := He.free_ok X G (c.d.fact 20 (f := .free "bool") rfl)
    b_enumerate := He.free_ok X G (c.d.fact 21 (f := .free "enumerate") rfl)
    b_int := He.free_ok X G (c.d.fact 22 (f := .free "int") rfl)
    b_isinstance := He.free_ok X G (c.d.fact 23 (f := .free "isinstance") rfl)
    b_len := He.free_ok X G (c.d.fact 24 (f := .free "len") rfl)
    b_list := He.free_ok X G (c.d.fact 25 (f := .free "list") rfl)
    b_range := He.free_ok X G (c.d.fact 26 (f := .free "range") rfl)
    b_str := He.free_ok X G (c.d.fact 27 (f := .free "str") rfl)
    b_super := He.free_ok X G (c.d.fact 28 (f := .free "super") rfl)
    b_tuple := He.free_ok X G (c.d.fact 29 (f := .free "tuple") rfl)
    c_MOST_KINDS := He.int_ok X G (c.d.fact 30 (f := .int "MOST_KINDS" 6) rfl)
    c_MOST_VISITS := He.int_ok X G (c.d.fact 31 (f := .int "MOST_VISITS" 400) rfl)
    x_InvalidHistory := ⟨_, He.glo_ok X G (c.d.fact 18 (f := .glo "InvalidHistory") rfl), c.i 0 (d := i_InvalidHistory) rfl⟩
    y_InvalidHistory := ⟨_, He.glo_ok X G (c.d.fact 18 (f := .glo "InvalidHistory") rfl)⟩
    t_InvalidHistory := fun C0 h0 => clause_ok X G e0 h0 (He.glo_ok X G (c.d.fact 18 (f := .glo "InvalidHistory") rfl))
    f_InvalidHistory_at := field_ok X G e1 }
theorem law_ok {K : PySem.W.Frag} {mg : Str → Option Value} {h : Heap} {wd : World} {fl : Addr} (X : K.In h) (G : h.Ns mainGlobals mg) (hfa : mg ("law" : Str) = some (.ref fl)) (c : SaysK PySem.Challenge.pw_keepnothing_k12_whole_rows_picked_out fas fns inds exs K) :
    ∃ fd : FuncData, (∀ (s : Shared) (u : Value), BindsTo s fd ⟨[u], []⟩ [("script", u)]) ∧ ∀ base : Heap, FnOk PySem.Challenge.pw_keepnothing_k12_whole_rows_picked_out wd K mg base CXn 7 fl fd ["script"] (spEnd K mg boxA p_law) := by
  have GG := gx X G c
  obtain ⟨fd_is_integer, F_is_integer⟩ := c.d.def_ 0 (d := d_is_integer) rfl
  have m_is_integer := He.glo_ok X G (c.d.fact 0 (f := .glo "is_integer") rfl)
  obtain ⟨fd_is_below, F_is_below⟩ := c.d.def_ 1 (d := d_is_below) rfl
  have m_is_below := He.glo_ok X G (c.d.fact 1 (f := .glo "is_below") rfl)
  obtain ⟨fd_is_sequence, F_is_sequence⟩ := c.d.def_ 2 (d := d_is_sequence) rfl
  have m_is_sequence := He.glo_ok X G (c.d.fact 2 (f := .glo "is_sequence") rfl)
  obtain ⟨fd_history_wrong, F_history_wrong⟩ := c.d.def_ 3 (d := d_history_wrong) rfl
  have m_history_wrong := He.glo_ok X G (c.d.fact 3 (f := .glo "history_wrong") rfl)
  obtain ⟨fd_need_rows, F_need_rows⟩ := c.d.def_ 4 (d := d_need_rows) rfl
  have m_need_rows := He.glo_ok X G (c.d.fact 4 (f := .glo "need_rows") rfl)
  obtain ⟨fd_early_places, F_early_places⟩ := c.d.def_ 5 (d := d_early_places) rfl
  have m_early_places := He.glo_ok X G (c.d.fact 5 (f := .glo "early_places") rfl)
  obtain ⟨fd_picked, F_picked⟩ := c.d.def_ 6 (d := d_picked) rfl
  have m_picked := He.glo_ok X G (c.d.fact 6 (f := .glo "picked") rfl)
  obtain ⟨fd_ulaw_box, F_ulaw_box⟩ := c.d.def_ 7 (d := d_ulaw_box) rfl
  have m_ulaw_box := He.glo_ok X G (c.d.fact 7 (f := .glo "_law_box") rfl)
  obtain ⟨fd_ulaw_draw, F_ulaw_draw⟩ := c.d.def_ 8 (d := d_ulaw_draw) rfl
  have m_ulaw_draw := He.glo_ok X G (c.d.fact 8 (f := .glo "_law_draw") rfl)
  obtain ⟨fd_ulaw_pick, F_ulaw_pick⟩ := c.d.def_ 9 (d := d_ulaw_pick) rfl
  have m_ulaw_pick := He.glo_ok X G (c.d.fact 9 (f := .glo "_law_pick") rfl)
  obtain ⟨fd_ulaw_is_int, F_ulaw_is_int⟩ := c.d.def_ 10 (d := d_ulaw_is_int) rfl
  have m_ulaw_is_int := He.glo_ok X G (c.d.fact 10 (f := .glo "_law_is_int") rfl)
  obtain ⟨fd_ulaw_place, F_ulaw_place⟩ := c.d.def_ 11 (d := d_ulaw_place) rfl
  have m_ulaw_place := He.glo_ok X G (c.d.fact 11 (f := .glo "_law_place") rfl)
  obtain ⟨fd_ulaw_same, F_ulaw_same⟩ := c.d.def_ 12 (d := d_ulaw_same) rfl
  have m_ulaw_same := He.glo_ok X G (c.d.fact 12 (f := .glo "_law_same") rfl)
  obtain ⟨fd_ulaw_early, F_ulaw_early⟩ := c.d.def_ 13 (d := d_ulaw_early) rfl
  have m_ulaw_early := He.glo_ok X G (c.d.fact 13 (f := .glo "_law_early") rfl)
  obtain ⟨fd_ulaw_asked, F_ulaw_asked⟩ := c.d.def_ 14 (d := d_ulaw_asked) rfl
  have m_ulaw_asked := He.glo_ok X G (c.d.fact 14 (f := .glo "_law_asked") rfl)
  obtain ⟨fd_ulaw_some, F_ulaw_some⟩ := c.d.def_ 15 (d := d_ulaw_some) rfl
  have m_ulaw_some := He.glo_ok X G (c.d.fact 15 (f := .glo "_law_some") rfl)
  obtain ⟨fd_ulaw_refused, F_ulaw_refused⟩ := c.d.def_ 16 (d := d_ulaw_refused) rfl
  have m_ulaw_refused := He.glo_ok X G (c.d.fact 16 (f := .glo "_law_refused") rfl)
  obtain ⟨fd_law, F_law⟩ := c.d.def_ 17 (d := d_law) rfl
  have m_law := He.glo_ok X G (c.d.fact 17 (f := .glo "law") rfl)
  have e := hfa.symm.trans m_law
  cases e
  have b := FunD.bindsA (ps := ["script"]) F_law fun _ _ _ _ _ _ us hl => match us, hl with | [_], _ => rfl
  refine ⟨fd_law, fun s u => b s [u] rfl, fun base => ?_⟩
  have c_is_integer := fn_is_integer (P := PySem.Challenge.pw_keepnothing_k12_whole_rows_picked_out) (wd := wd) (base := base) GG F_is_integer m_is_integer
  have c_is_below := fn_is_below (P := PySem.Challenge.pw_keepnothing_k12_whole_rows_picked_out) (wd := wd) (base := base) GG c_is_integer F_is_below m_is_below
  have c_is_sequence := fn_is_sequence (P := PySem.Challenge.pw_keepnothing_k12_whole_rows_picked_out) (wd := wd) (base := base) GG F_is_sequence m_is_sequence
  have c_history_wrong := fn_history_wrong (P := PySem.Challenge.pw_keepnothing_k12_whole_rows_picked_out) (wd := wd) (base := base) GG c_is_below c_is_sequence F_history_wrong m_history_wrong
  have c_need_rows := fn_need_rows (P := PySem.Challenge.pw_keepnothing_k12_whole_rows_picked_out) (wd := wd) (base := base) GG c_history_wrong F_need_rows m_need_rows
  have c_early_places := fn_early_places (P := PySem.Challenge.pw_keepnothing_k12_whole_rows_picked_out) (wd := wd) (base := base) GG F_early_places m_early_places
  have c_picked := fn_picked (P := PySem.Challenge.pw_keepnothing_k12_whole_rows_picked_out) (wd := wd) (base := base) GG c_need_rows c_early_places F_picked m_picked
  have c_ulaw_box := fn_ulaw_box (P := PySem.Challenge.pw_keepnothing_k12_whole_rows_picked_out) (wd := wd) (base := base) GG F_ulaw_box m_ulaw_box
  have c_ulaw_draw := fn_ulaw_draw (P := PySem.Challenge.pw_keepnothing_k12_whole_rows_picked_out) (wd := wd) (base := base) GG F_ulaw_draw m_ulaw_draw
  have c_ulaw_pick := fn_ulaw_pick (P := PySem.Challenge.pw_keepnothing_k12_whole_rows_picked_out) (wd := wd) (base := base) GG c_ulaw_draw F_ulaw_pick m_ulaw_pick
  have c_ulaw_is_int := fn_ulaw_is_int (P := PySem.Challenge.pw_keepnothing_k12_whole_rows_picked_out) (wd := wd) (base := base) GG F_ulaw_is_int m_ulaw_is_int
  have h_ulaw_is_int := fh_ulaw_is_int (P := PySem.Challenge.pw_keepnothing_k12_whole_rows_picked_out) (wd := wd) (base := base) GG F_ulaw_is_int m_ulaw_is_int
  have c_ulaw_place := fn_ulaw_place (P := PySem.Challenge.pw_keepnothing_k12_whole_rows_picked_out) (wd := wd) (base := base) GG c_ulaw_is_int F_ulaw_place m_ulaw_place
  have h_ulaw_place := fh_ulaw_place (P := PySem.Challenge.pw_keepnothing_k12_whole_rows_picked_out) (wd := wd) (base := base) GG h_ulaw_is_int F_ulaw_place m_ulaw_place
  have c_ulaw_same := fn_ulaw_same (P := PySem.Challenge.pw_keepnothing_k12_whole_rows_picked_out) (wd := wd) (base := base) GG c_ulaw_is_int F_ulaw_same m_ulaw_same 3
  have c_ulaw_early := fn_ulaw_early (P := PySem.Challenge.pw_keepnothing_k12_whole_rows_picked_out) (wd := wd) (base := base) GG F_ulaw_early m_ulaw_early
  have c_ulaw_asked := fn_ulaw_asked (P := PySem.Challenge.pw_keepnothing_k12_whole_rows_picked_out) (wd := wd) (base := base) GG c_picked c_ulaw_same c_ulaw_early F_ulaw_asked m_ulaw_asked
  have c_ulaw_some := fn_ulaw_some (P := PySem.Challenge.pw_keepnothing_k12_whole_rows_picked_out) (wd := wd) (base := base) GG c_ulaw_draw c_ulaw_pick F_ulaw_some m_ulaw_some
  have c_ulaw_refused := fn_ulaw_refused (P := PySem.Challenge.pw_keepnothing_k12_whole_rows_picked_out) (wd := wd) (base := base) GG c_picked h_ulaw_place F_ulaw_refused m_ulaw_refused
  exact fn_end (fo_law GG c_picked c_ulaw_box c_ulaw_draw c_ulaw_pick c_ulaw_same c_ulaw_early c_ulaw_asked c_ulaw_some c_ulaw_refused F_law m_law)
def lo0 : List PySem.Str := ["CardError", "InvalidHistory", "is_integer", "is_below", "is_sequence", "MOST_KINDS", "MOST_VISITS", "history_wrong", "need_rows", "early_places", "picked", "_law_box", "_law_draw", "_law_pick", "_law_is_int", "_law_place", "_law_same", "_law_early", "_law_asked", "_law_some", "_law_refused"]
def los : List PySem.Str := lo0
abbrev Rw : PySem.W.OpenRow := PySem.W.OpenLaw.row PySem.Challenge.rw_keepnothing_k12_whole_rows_picked_out
abbrev hk : PySem.W.Hook := hookK PySem.Challenge.pw_keepnothing_k12_whole_rows_picked_out 5 fas fns inds exs
def ob (s : PySem.W.SharedT) : AlK := obsKG PySem.Challenge.pw_keepnothing_k12_whole_rows_picked_out 5 fas fns inds exs (HandSHeadRun.getT s)
theorem ob_eq (s : PySem.W.SharedT) : ob s = hk.obs s.abs := obsKG_eq (HandSHeadRun.getT_eq s)
theorem run (w : World) : HandSHeadRun.RunEq Rw (PySem.W.view Rw.prog [26]) hk ob 4000 los w := by
  intro os
  kernel_rfl
end Kn
open PySem PySem.W PySem.Calls PyProof.Rows
set_option maxRecDepth 100000 in
set_option maxHeartbeats 8000000 in
theorem PySem.Challenge.cw_keepnothing_k12_whole_rows_picked_out_holds : PySem.Challenge.rw_keepnothing_k12_whole_rows_picked_out.Holds := by
  w_on; o_law
  refine HandSHeadRun.head_any (r := OpenLaw.row PySem.Challenge.rw_keepnothing_k12_whole_rows_picked_out) (q := view (OpenLaw.row PySem.Challenge.rw_keepnothing_k12_whole_rows_picked_out).prog [26]) (H := Kn.hk) (ob := Kn.ob) (M := 4000) (loose := Kn.los) (d := HandSHeadRun.topDef (OpenLaw.row PySem.Challenge.rw_keepnothing_k12_whole_rows_picked_out).prog 26) (kwd := []) Kn.ob_eq
    (by kernel_rfl) (fun s => by kernel_rfl) Kn.run (by kernel_rfl) (by kernel_rfl) (by kernel_rfl) (by rfl) (by first | assumption | decide +kernel) (by decide +kernel) ⟨rfl, rfl, rfl, rfl, rfl, by decide +kernel⟩ ?hw ?hc
  case hw => w_witness2
  case hc =>
    refine L2.walk_ofE (l := PySem.Challenge.rw_keepnothing_k12_whole_rows_picked_out) (n := 63) (k := 7) (x := "script") (CX := Kn.CXn) rfl (by decide) (by kernel_rfl) ⟨rfl, by decide, by decide⟩ ?F (fun _ _ _ _ z => z)
    intro w mg fa h Y G hmg0
    obtain ⟨K, KX, c⟩ := Y
    have hmg : mg ("law" : PySem.Str) = some (.ref fa) := by
      have e : (HandSHeadRun.topDef (OpenLaw.row PySem.Challenge.rw_keepnothing_k12_whole_rows_picked_out).prog 26).name = ("law" : PySem.Str) := by kernel_rfl
      rw [← e]
      exact hmg0
    obtain ⟨fd, hb, hF⟩ := Kn.law_ok (wd := w) KX G hmg c
    exact ⟨K, fd, Kn.spEnd K mg Kn.boxA Kn.p_law, KX, hb, fun H a ns hl hO hS => Kn.end_ok hO hS ⟨ns, rfl, hl, rfl⟩, fun base _ _ => hF base⟩
