import PyProof.Rows.All
import Wide.All
import OpenK.AllK
import Wide.FinOn
import HandS.ForMost
import HandS.ForExc
import HandS.TupAny
import HandS.Wide
import HandS.Flow
import HandS.Style
import HandS.Lambda
import HandS.Nested
import HandS.Deep
import HandS.ExcCtx
import HandS.IsInst
import HandS.Codes
import HandS.SetFor
import HandS.TupMul
import PyProof.SeqRoads2
import HandS.HotCalls
import HandS.ExcIs
import HandS.Zip
import PySem.Challenge.RW_grownblocks_k10_texts
import HandS.EndTab
import HandS.EndOwn
import HandS.Ends
import KE.KNest
section
set_option Elab.async false
set_option linter.all false
set_option maxRecDepth 100000
set_option maxHeartbeats 1000000
/-! DL1: a layer of plain data over HandS. Values are trees (PyData); what a def owns alone (a list, a dict of its own) is a slot's content; each expression, each statement denotes a function of the slots. -/
namespace DL
open PySem PySem.Spec PyProof.Rows L2

/-! ### data read off the frozen ground -/
def keyD : Key → PyData
  | .inl i => .int i
  | .inr x => .str x
def keyT (ks : List Key) : PyData := .tuple (ks.map keyD)
mutual
inductive RD (K : PySem.W.Frag) (G : Hp) : V → PyData → Prop
  | non : RD K G .non .none
  | bl (b : Bool) : RD K G (.bl b) (.bool b)
  | int (i : Int) : RD K G (.int i) (.int i)
  | str (x : Str) : RD K G (.str x) (.str x)
  | lst {a : Addr} {xs : List V} {ds : List PyData} : SqL K G a xs → RDs K G xs ds → RD K G (.ref a) (.list ds)
  | tup {a : Addr} {xs : List V} {ds : List PyData} : G a = some (.tup xs) → RDs K G xs ds → RD K G (.ref a) (.tuple ds)
  | dK {a : Addr} {kvs : List (Key × V)} {ds : List PyData} : Rd G a (.dK kvs) → RDs K G (kvs.map (·.2)) ds → RD K G (.ref a) (.dict ((kvs.map fun p => keyD p.1).zip ds))
  | dT {a : Addr} {kvs : List (List Key × V)} {ds : List PyData} : Rd G a (.dT kvs) → RDs K G (kvs.map (·.2)) ds → RD K G (.ref a) (.dict ((kvs.map fun p => keyT p.1).zip ds))
inductive RDs (K : PySem.W.Frag) (G : Hp) : List V → List PyData → Prop
  | nil : RDs K G [] []
  | cons {v : V} {vs : List V} {d : PyData} {ds : List PyData} : RD K G v d → RDs K G vs ds → RDs K G (v :: vs) (d :: ds)
end
def RdLe (G G' : Hp) : Prop := (∀ a u, Rd G a u → Rd G' a u) ∧ ∀ a xs, G a = some (.tup xs) → G' a = some (.tup xs)
def GE (G G' : Hp) : Prop := ∀ b o, G b = some o → G' b = some o
theorem GE.refl (G : Hp) : GE G G := fun _ _ h => h
theorem GE.trans {G G1 G2 : Hp} (a : GE G G1) (b : GE G1 G2) : GE G G2 := fun c o h => b c o (a c o h)
theorem GE.rd {G G' : Hp} (g : GE G G') : RdLe G G' := ⟨fun a u h => h.elim (fun z => .inl (g _ _ z)) fun ⟨o, z⟩ => .inr ⟨o, g _ _ z⟩, fun a xs h => g _ _ h⟩
theorem RdLe.sqL {K : PySem.W.Frag} {G G' : Hp} (g : RdLe G G') {a : Addr} {xs : List V} (h : SqL K G a xs) : SqL K G' a xs := h.elim (fun z => .inl (g.1 _ _ z)) .inr
theorem RdLe.sqT {K : PySem.W.Frag} {G G' : Hp} (g : RdLe G G') {a : Addr} {xs : List V} (h : SqT K G a xs) : SqT K G' a xs := h.elim (fun z => .inl (g.1 _ _ z)) .inr
mutual
theorem RD.mono {K : PySem.W.Frag} {G G' : Hp} (g : RdLe G G') : ∀ {v : V} {d : PyData}, RD K G v d → RD K G' v d
  | _, _, .non => .non
  | _, _, .bl b => .bl b
  | _, _, .int i => .int i
  | _, _, .str x => .str x
  | _, _, .lst h r => .lst (g.sqL h) (RDs.mono g r)
  | _, _, .tup h r => .tup (g.2 _ _ h) (RDs.mono g r)
  | _, _, .dK h r => .dK (g.1 _ _ h) (RDs.mono g r)
  | _, _, .dT h r => .dT (g.1 _ _ h) (RDs.mono g r)
theorem RDs.mono {K : PySem.W.Frag} {G G' : Hp} (g : RdLe G G') : ∀ {vs : List V} {ds : List PyData}, RDs K G vs ds → RDs K G' vs ds
  | _, _, .nil => .nil
  | _, _, .cons r t => .cons (RD.mono g r) (RDs.mono g t)
end
section
variable {K : PySem.W.Frag} {G : Hp}
theorem RDs.length : ∀ {vs : List V} {ds : List PyData}, RDs K G vs ds → vs.length = ds.length
  | _, _, .nil => rfl
  | _, _, .cons _ t => by simp [RDs.length t]
theorem RDs.get : ∀ {vs : List V} {ds : List PyData} {i : Nat} {d : PyData}, RDs K G vs ds → ds[i]? = some d → ∃ v, vs[i]? = some v ∧ RD K G v d
  | _, _, _, _, .nil, e => by simp at e
  | _, _, 0, _, .cons r _, e => by simp at e; subst e; exact ⟨_, rfl, r⟩
  | _, _, i + 1, d, .cons _ t, e => by
    obtain ⟨v, h1, h2⟩ := RDs.get (i := i) (d := d) t (by simpa using e)
    exact ⟨v, by simpa using h1, h2⟩
theorem RDs.get' : ∀ {vs : List V} {ds : List PyData} {i : Nat} {v : V}, RDs K G vs ds → vs[i]? = some v → ∃ d, ds[i]? = some d ∧ RD K G v d
  | _, _, _, _, .nil, e => by simp at e
  | _, _, 0, _, .cons r _, e => by simp at e; subst e; exact ⟨_, rfl, r⟩
  | _, _, i + 1, v, .cons _ t, e => by
    obtain ⟨d, h1, h2⟩ := RDs.get' (i := i) (v := v) t (by simpa using e)
    exact ⟨d, by simpa using h1, h2⟩
theorem RDs.append : ∀ {vs ws : List V} {ds es : List PyData}, RDs K G vs ds → RDs K G ws es → RDs K G (vs ++ ws) (ds ++ es)
  | _, _, _, _, .nil, s => s
  | _, _, _, _, .cons r t, s => .cons r (RDs.append t s)
theorem RDs.one {v : V} {d : PyData} (r : RD K G v d) : RDs K G [v] [d] := .cons r .nil
theorem RDs.take : ∀ {vs : List V} {ds : List PyData} (n : Nat), RDs K G vs ds → RDs K G (vs.take n) (ds.take n)
  | _, _, 0, _ => .nil
  | _, _, _ + 1, .nil => .nil
  | _, _, n + 1, .cons r t => .cons r (RDs.take n t)
theorem RDs.drop : ∀ {vs : List V} {ds : List PyData} (n : Nat), RDs K G vs ds → RDs K G (vs.drop n) (ds.drop n)
  | _, _, 0, s => s
  | _, _, _ + 1, .nil => .nil
  | _, _, n + 1, .cons _ t => RDs.drop n t
theorem RDs.set {v : V} {d : PyData} (r : RD K G v d) : ∀ {vs : List V} {ds : List PyData} (n : Nat), RDs K G vs ds → RDs K G (vs.set n v) (ds.set n d)
  | _, _, _, .nil => .nil
  | _, _, 0, .cons _ t => .cons r t
  | _, _, n + 1, .cons q t => .cons q (RDs.set r n t)
theorem RDs.eraseIdx : ∀ {vs : List V} {ds : List PyData} (n : Nat), RDs K G vs ds → RDs K G (vs.eraseIdx n) (ds.eraseIdx n)
  | _, _, _, .nil => .nil
  | _, _, 0, .cons _ t => t
  | _, _, n + 1, .cons q t => .cons q (RDs.eraseIdx n t)
theorem RDs.reverse : ∀ {vs : List V} {ds : List PyData}, RDs K G vs ds → RDs K G vs.reverse ds.reverse
  | _, _, .nil => .nil
  | _, _, .cons q t => by
    rw [List.reverse_cons, List.reverse_cons]
    exact (RDs.reverse t).append (.one q)
theorem RDs.nil_iff {vs : List V} {ds : List PyData} (r : RDs K G vs ds) : (vs = [] ↔ ds = []) := by
  cases r <;> simp
theorem RDs.isEmpty {vs : List V} {ds : List PyData} (r : RDs K G vs ds) : vs.isEmpty = ds.isEmpty := by
  cases r <;> rfl
theorem RDs.of_all : ∀ {vs : List V} {ds : List PyData}, vs.length = ds.length → (∀ (i : Nat) (v : V) (d : PyData), vs[i]? = some v → ds[i]? = some d → RD K G v d) → RDs K G vs ds
  | [], [], _, _ => .nil
  | v :: vs, d :: ds, h, a => .cons (a 0 v d rfl rfl) (RDs.of_all (by simpa using h) fun i v d h1 h2 => a (i + 1) v d (by simpa using h1) (by simpa using h2))
  | [], _ :: _, h, _ => by simp at h
  | _ :: _, [], h, _ => by simp at h
mutual
theorem RD.dp : ∀ {v : V} {d : PyData}, d.canLay0 = true → RD K G v d → Dp K G v d
  | _, _, _, .non => .non
  | _, _, _, .bl b => .bl b
  | _, _, _, .int i => .int i
  | _, _, _, .str x => .str x
  | _, _, c, .lst h r => .lst h (RDs.dp (by simpa [PyData.canLay0] using c) r)
  | _, _, c, .tup h r => .tup (.inl (.inl h)) (RDs.dp (by simpa [PyData.canLay0] using c) r)
  | _, _, c, .dK h r => by simp [PyData.canLay0] at c
  | _, _, c, .dT h r => by simp [PyData.canLay0] at c
theorem RDs.dp : ∀ {vs : List V} {ds : List PyData}, PyData.canLayAll0 ds = true → RDs K G vs ds → DpAll K G vs ds
  | _, _, _, .nil => .nil
  | _, _, c, .cons r t => by
    simp only [PyData.canLayAll0, Bool.and_eq_true] at c
    exact .cons (RD.dp c.1 r) (RDs.dp c.2 t)
end
end

/-! ### slots -/
/-- what stands in an object that a def has alone -/
inductive OC where
  | lst (ds : List PyData)
  | dic (t : Bool) (kvs : List (PyData × PyData))
def OC.data : OC → PyData
  | .lst ds => .list ds
  | .dic _ kvs => .dict kvs
/-- shared data; an object of the def's own; an object that the caller lends; a reference of no told content; (of an expression:) the object that a slot has -/
inductive DV where
  | sh (d : PyData) | ow (c : OC) | mu (c : OC) | op (a : Addr) | bw (i : Nat)
abbrev Rho := List (Option DV)
inductive R (α : Type) where
  | bad | exc (c : Str) (ρ : Rho) | ok (x : α) (ρ : Rho)
def R.bind {α β : Type} (r : R α) (k : α → Rho → R β) : R β := match r with
  | .bad => .bad
  | .exc c ρ => .exc c ρ
  | .ok x ρ => k x ρ
@[simp] theorem R.bind_ok {α β : Type} (x : α) (ρ : Rho) (k : α → Rho → R β) : (R.ok x ρ).bind k = k x ρ := rfl
@[simp] theorem R.bind_bad {α β : Type} (k : α → Rho → R β) : (R.bad : R α).bind k = .bad := rfl
@[simp] theorem R.bind_exc {α β : Type} (c : Str) (ρ : Rho) (k : α → Rho → R β) : (R.exc c ρ : R α).bind k = .exc c ρ := rfl

def OwnAt (K : PySem.W.Frag) (G H : Hp) (a : Addr) : OC → Prop
  | .lst ds => ∃ xs, H a = some (.lst xs) ∧ RDs K G xs ds
  | .dic t kvs => (t = false ∧ ∃ es ds, H a = some (.dK es) ∧ RDs K G (es.map (·.2)) ds ∧ kvs = (es.map fun p => keyD p.1).zip ds) ∨
      t = true ∧ ∃ es ds, H a = some (.dT es) ∧ RDs K G (es.map (·.2)) ds ∧ kvs = (es.map fun p => keyT p.1).zip ds
/-- the entry: the heap and the ground then, what the caller lends, what a loop locks, what is in the making, the tables of code objects -/
class Tbl where
  T : List NdefX.NTab
/-- the tables of code objects are the law's, each tells its names -/
def TabsOk [Tbl] (T : List NdefX.NTab) (H : Hp) : Prop := T = Tbl.T ∧ NdefX.TabsN T H
theorem TabsOk.ext [Tbl] {T : List NdefX.NTab} {H H' : Hp} (t : TabsOk T H) (e : ∀ b o, H b = some o → H' b = some o) : TabsOk T H' := ⟨t.1, t.2.ext e⟩
structure Ent where
  H0 : Hp
  G0 : Hp
  M : Addr → Prop
  lk : Addr → Bool
  P : List (Addr × HO)
  T : List NdefX.NTab
def isTbl : HO → Bool
  | .tbl _ => true
  | _ => false
/-- the content of an owned or lent slot -/
def DV.oc? : DV → Option OC
  | .ow c => some c
  | .mu c => some c
  | _ => none
variable [Tbl]
def SlotOk (K : PySem.W.Frag) (e : Ent) (G H : Hp) (v : V) : DV → Prop
  | .sh d => RD K G v d
  | .ow c => ∃ a, v = .ref a ∧ G a = none ∧ e.H0 a = none ∧ (∀ p ∈ e.P, p.1 ≠ a) ∧ OwnAt K G H a c
  | .mu c => ∃ a, v = .ref a ∧ G a = none ∧ e.M a ∧ (∀ p ∈ e.P, p.1 ≠ a) ∧ OwnAt K G H a c
  | .op a => v = .ref a
  | .bw _ => False
structure Rp (K : PySem.W.Frag) (e : Ent) (G H : Hp) (σ : L2.St) (ρ : Rho) : Prop where
  le : GE G H
  nt : ∀ b o, G b = some o → isTbl o = false
  bg : ∀ b o, e.H0 b = some o → ¬ e.M b → isTbl o = false → (e.lk b = false → H b = some o) ∧ (e.lk b = true → ∃ ob, H b = some (.frz ob o))
  mt : ∀ b, e.M b → H b ≠ none
  tb : ∀ b o, e.H0 b = some o → isTbl o = true → H b ≠ none
  new : ∀ b, G b ≠ none → e.G0 b ≠ none ∨ e.H0 b = none
  ge : ∀ b o, e.G0 b = some o → (e.lk b = false → G b = some o) ∧ (e.lk b = true → ∃ ob, G b = some (.frz ob o))
  pr : ∀ p ∈ e.P, H p.1 = some p.2 ∧ G p.1 = none ∧ e.H0 p.1 = none ∧ isTbl p.2 = false
  tabs : TabsOk e.T H
  len : σ.length = ρ.length
  slot : ∀ (i : Nat) (v : V) (dv : DV), σ[i]? = some (some v) → ρ[i]? = some (some dv) → SlotOk K e G H v dv
  has : ∀ (i : Nat) (dv : DV), ρ[i]? = some (some dv) → ∃ v, σ[i]? = some (some v)
  apart : ∀ (i j : Nat) (v : V) (dv dv' : DV), i ≠ j → σ[i]? = some (some v) → σ[j]? = some (some v) → ρ[i]? = some (some dv) → ρ[j]? = some (some dv') → dv.oc? = none ∨ dv'.oc? = none
/-- a value in flight -/
def VOk (K : PySem.W.Frag) (e : Ent) (G H : Hp) (σ : L2.St) (ρ : Rho) (v : V) : DV → Prop
  | .sh d => RD K G v d
  | .ow c => ∃ a, v = .ref a ∧ G a = none ∧ e.H0 a = none ∧ (∀ p ∈ e.P, p.1 ≠ a) ∧ OwnAt K G H a c ∧ ∀ (j : Nat) (dv : DV), ρ[j]? = some (some dv) → σ[j]? = some (some v) → dv.oc? = none
  | .mu _ => False
  | .op a => v = .ref a
  | .bw i => σ[i]? = some (some v)
end DL
end

section
set_option Elab.async false
set_option linter.all false
set_option maxRecDepth 100000
set_option maxHeartbeats 1000000
/-! DL2: what keeps the relation of slots and heap; readings by functions of the slots -/
namespace DL
open PySem PySem.Spec PyProof.Rows L2
variable [Tbl]
section
variable {K : PySem.W.Frag} {e : Ent} {G H : Hp} {σ : L2.St} {ρ : Rho}
theorem OwnAt.mono {a : Addr} {c : OC} {G' H' : Hp} (o : OwnAt K G H a c) (g : RdLe G G') (h : ∀ u, H a = some u → H' a = some u) : OwnAt K G' H' a c := by
  cases c with
  | lst ds => obtain ⟨xs, h1, r⟩ := o; exact ⟨xs, h _ h1, r.mono g⟩
  | dic t kvs =>
    rcases o with ⟨ft, es, ds, h1, r, q⟩ | ⟨ft, es, ds, h1, r, q⟩
    · exact .inl ⟨ft, es, ds, h _ h1, r.mono g, q⟩
    · exact .inr ⟨ft, es, ds, h _ h1, r.mono g, q⟩
theorem OwnAt.there {a : Addr} {c : OC} (o : OwnAt K G H a c) : ∃ u, H a = some u ∧ isTbl u = false ∧ Mut (H a) := by
  cases c with
  | lst ds => obtain ⟨xs, h1, r⟩ := o; exact ⟨_, h1, rfl, by rw [h1]; trivial⟩
  | dic t kvs =>
    rcases o with ⟨ft, es, ds, h1, r, q⟩ | ⟨ft, es, ds, h1, r, q⟩
    · exact ⟨_, h1, rfl, by rw [h1]; trivial⟩
    · exact ⟨_, h1, rfl, by rw [h1]; trivial⟩
theorem Rp.fresh0 (r : Rp K e G H σ ρ) {p : Addr} (hp : H p = none) : e.H0 p = none := by
  cases q : e.H0 p with
  | none => rfl
  | some o =>
    by_cases m : e.M p
    · exact absurd hp (r.mt p m)
    · cases t : isTbl o with
      | true => exact absurd hp (r.tb p o q t)
      | false =>
        obtain ⟨h1, h2⟩ := r.bg p o q m t
        cases l : e.lk p with
        | false => rw [h1 l] at hp; cases hp
        | true => obtain ⟨ob, z⟩ := h2 l; rw [z] at hp; cases hp
theorem Rp.freshG (r : Rp K e G H σ ρ) {p : Addr} (hp : H p = none) : G p = none := by
  cases q : G p with
  | none => rfl
  | some o => rw [r.le p o q] at hp; cases hp
theorem Rp.freshP (r : Rp K e G H σ ρ) {p : Addr} (hp : H p = none) : ∀ q ∈ e.P, q.1 ≠ p := fun q hq z => by
  have := (r.pr q hq).1
  rw [z, hp] at this; cases this
theorem SlotOk.mono {v : V} {dv : DV} {G' H' : Hp} (s : SlotOk K e G H v dv) (g : RdLe G G') (h1 : ∀ a, v = .ref a → dv.oc? ≠ none → G a = none → G' a = none) (h2 : ∀ a u, v = .ref a → dv.oc? ≠ none → H a = some u → H' a = some u) : SlotOk K e G' H' v dv := by
  cases dv with
  | sh d => exact RD.mono g s
  | ow c =>
    obtain ⟨a, rfl, n, z, p, o⟩ := s
    exact ⟨a, rfl, h1 a rfl (by simp [DV.oc?]) n, z, p, o.mono g fun u q => h2 a u rfl (by simp [DV.oc?]) q⟩
  | mu c =>
    obtain ⟨a, rfl, n, z, p, o⟩ := s
    exact ⟨a, rfl, h1 a rfl (by simp [DV.oc?]) n, z, p, o.mono g fun u q => h2 a u rfl (by simp [DV.oc?]) q⟩
  | op a => exact s
  | bw i => exact s
theorem ne_none_of {H : Hp} {a b : Addr} {o : HO} (h : H a = some o) (hb : H b = none) : a ≠ b := fun z => by rw [z, hb] at h; cases h
/-- the owned object's address is tracked -/
theorem SlotOk.tracked {v : V} {dv : DV} {a : Addr} (s : SlotOk K e G H v dv) (hv : v = .ref a) (hd : dv.oc? ≠ none) : ∃ u, H a = some u ∧ isTbl u = false ∧ G a = none := by
  cases dv with
  | ow c =>
    obtain ⟨b, e1, n, z, p, o⟩ := s
    rw [e1] at hv; cases hv
    obtain ⟨u, h1, h2, _⟩ := o.there
    exact ⟨u, h1, h2, n⟩
  | mu c =>
    obtain ⟨b, e1, n, z, p, o⟩ := s
    rw [e1] at hv; cases hv
    obtain ⟨u, h1, h2, _⟩ := o.there
    exact ⟨u, h1, h2, n⟩
  | sh d => exact absurd rfl hd
  | op a => exact absurd rfl hd
  | bw i => exact absurd rfl hd
/-- a new object, not (yet) frozen -/
theorem Rp.alloc (r : Rp K e G H σ ρ) {p : Addr} {o : HO} (hp : H p = none) : Rp K e G (upd H p o) σ ρ := by
  have k : ∀ b u, H b = some u → upd H p o b = some u := fun b u q => by rw [upd_ne (ne_none_of q hp)]; exact q
  refine ⟨fun b u q => k b u (r.le b u q), r.nt, fun b u q m t => ⟨fun l => k b u ((r.bg b u q m t).1 l), fun l => ?_⟩, fun b m => ?_, fun b u q t => ?_, r.new, r.ge, fun q hq => ⟨k _ _ (r.pr q hq).1, (r.pr q hq).2⟩, r.tabs.ext k, r.len, fun i v dv h1 h2 => (r.slot i v dv h1 h2).mono (GE.refl G).rd (fun _ _ _ z => z) fun a u _ _ q => k a u q, r.has, r.apart⟩
  · obtain ⟨ob, z⟩ := (r.bg b u q m t).2 l
    exact ⟨ob, k _ _ z⟩
  · have := r.mt b m
    cases z : H b with
    | none => exact absurd z this
    | some u => rw [k _ _ z]; simp
  · have := r.tb b u q t
    cases z : H b with
    | none => exact absurd z this
    | some u => rw [k _ _ z]; simp
theorem ge_upd {G : Hp} {p : Addr} {o : HO} (hp : G p = none) : GE G (upd G p o) := fun b u q => by rw [upd_ne (ne_none_of q hp)]; exact q
/-- an object that no slot has, freshly made, is frozen -/
theorem Rp.freeze (r : Rp K e G H σ ρ) {p : Addr} {o : HO} (hp : H p = some o) (hG : G p = none) (h0 : e.H0 p = none) (hP : ∀ q ∈ e.P, q.1 ≠ p) (ht : isTbl o = false)
    (hs : ∀ (j : Nat) (dv : DV), ρ[j]? = some (some dv) → σ[j]? = some (some (.ref p)) → dv.oc? = none) : Rp K e (upd G p o) H σ ρ := by
  have g : GE G (upd G p o) := ge_upd hG
  refine ⟨fun b u q => ?_, fun b u q => ?_, r.bg, r.mt, r.tb, fun b n => ?_, fun b u q => ⟨fun l => g _ _ ((r.ge b u q).1 l), fun l => ?_⟩, fun q hq => ⟨(r.pr q hq).1, ?_, (r.pr q hq).2.2⟩, r.tabs, r.len, fun i v dv h1 h2 => ?_, r.has, r.apart⟩
  · by_cases hb : b = p
    · subst hb; rw [upd_same] at q; cases q; exact hp
    · rw [upd_ne hb] at q; exact r.le b u q
  · by_cases hb : b = p
    · subst hb; rw [upd_same] at q; cases q; exact ht
    · rw [upd_ne hb] at q; exact r.nt b u q
  · by_cases hb : b = p
    · subst hb; exact .inr h0
    · rw [upd_ne hb] at n; exact r.new b n
  · obtain ⟨ob, z⟩ := (r.ge b u q).2 l
    exact ⟨ob, g _ _ z⟩
  · rw [upd_ne (hP q hq)]; exact (r.pr q hq).2.1
  · refine (r.slot i v dv h1 h2).mono g.rd (fun a ea hd n => ?_) fun a u _ _ q => q
    have : a ≠ p := fun z => hd (hs i dv h2 (by rw [h1, ea, z]))
    rw [upd_ne this]; exact n
/-- new and frozen at once -/
theorem Rp.lay (r : Rp K e G H σ ρ) {p : Addr} {o : HO} (hp : H p = none) (ht : isTbl o = false) : Rp K e (upd G p o) (upd H p o) σ ρ := by
  refine (r.alloc (o := o) hp).freeze upd_same (r.freshG hp) (r.fresh0 hp) (r.freshP hp) ht fun j dv h1 h2 => ?_
  cases z : dv.oc? with
  | none => rfl
  | some c =>
    obtain ⟨u, hu, _⟩ := (r.slot j _ dv h2 h1).tracked rfl (by rw [z]; simp)
    rw [hp] at hu; cases hu
theorem ge_lay {p : Addr} {o : HO} (r : Rp K e G H σ ρ) (hp : H p = none) : GE G (upd G p o) := ge_upd (r.freshG hp)
theorem Rp.len' (r : Rp K e G H σ ρ) {i : Nat} {v : V} (h : σ[i]? = some (some v)) : i < ρ.length := by
  rw [← r.len]; exact (List.getElem?_eq_some_iff.mp h).1
/-- the slot's object gets another content -/
theorem Rp.write (r : Rp K e G H σ ρ) {i : Nat} {a : Addr} {dv dv' : DV} {o' : HO} {c' : OC} (hσ : σ[i]? = some (some (.ref a))) (hρ : ρ[i]? = some (some dv)) (hc : dv.oc? ≠ none)
    (hk : (∃ c, dv = .ow c ∧ dv' = .ow c') ∨ ∃ c, dv = .mu c ∧ dv' = .mu c') (ho : OwnAt K G (upd H a o') a c') : Rp K e G (upd H a o') σ (ρ.set i (some dv')) := by
  obtain ⟨u0, hu, htb, hG⟩ := (r.slot i _ dv hσ hρ).tracked rfl hc
  have kn : ∀ b u, b ≠ a → H b = some u → upd H a o' b = some u := fun b u hb q => by rw [upd_ne hb]; exact q
  have nP : ∀ q ∈ e.P, q.1 ≠ a := by
    rcases hk with ⟨c, rfl, _⟩ | ⟨c, rfl, _⟩
    · obtain ⟨b, e1, _, _, p, _⟩ := r.slot i _ _ hσ hρ
      cases e1; exact p
    · obtain ⟨b, e1, _, _, p, _⟩ := r.slot i _ _ hσ hρ
      cases e1; exact p
  have n0 : ∀ b u, e.H0 b = some u → ¬ e.M b → b ≠ a := fun b u q m z => by
    rcases hk with ⟨c, rfl, _⟩ | ⟨c, rfl, _⟩
    · obtain ⟨b', e1, _, z0, _⟩ := r.slot i _ _ hσ hρ
      cases e1; rw [z, z0] at q; cases q
    · obtain ⟨b', e1, _, z0, _⟩ := r.slot i _ _ hσ hρ
      cases e1; exact m (z ▸ z0)
  have hi : i < ρ.length := r.len' hσ
  refine ⟨fun b u q => kn b u (fun z => by rw [z, hG] at q; cases q) (r.le b u q), r.nt, fun b u q m t => ⟨fun l => kn b u (n0 b u q m) ((r.bg b u q m t).1 l), fun l => ?_⟩, fun b m => ?_, fun b u q t => ?_, r.new, r.ge,
    fun q hq => ⟨kn _ _ (nP q hq) (r.pr q hq).1, (r.pr q hq).2⟩, ?_, by rw [List.length_set]; exact r.len, fun j v dv1 h1 h2 => ?_, fun j dv1 h => ?_, fun j k v d1 d2 hjk h1 h2 h3 h4 => ?_⟩
  · obtain ⟨ob, z⟩ := (r.bg b u q m t).2 l
    exact ⟨ob, kn _ _ (n0 b u q m) z⟩
  · by_cases hb : b = a
    · subst hb; rw [upd_same]; simp
    · rw [upd_ne hb]; exact r.mt b m
  · by_cases hb : b = a
    · subst hb; rw [upd_same]; simp
    · rw [upd_ne hb]; exact r.tb b u q t
  · refine ⟨r.tabs.1, fun p hp => ?_⟩
    obtain ⟨ps, h1, h2, h3⟩ := r.tabs.2 p hp
    have q1 : p.1 ≠ a := fun z => by rw [z, hu] at h1; cases h1; cases htb
    refine ⟨ps, kn _ _ q1 h1, h2, fun pos cv hcv => ?_⟩
    obtain ⟨c, e1, e2⟩ := h3 pos cv hcv
    refine ⟨c, e1, kn _ _ (fun z => ?_) e2⟩
    rw [z] at e2
    have q2 := e2
    obtain ⟨w1, w2, _⟩ := ho.there
    have sl := r.slot i _ dv hσ hρ
    rcases hk with ⟨c0, rfl, _⟩ | ⟨c0, rfl, _⟩ <;> obtain ⟨b', e3, _, _, _, o3⟩ := sl <;> cases e3 <;> obtain ⟨u3, _, _, m3⟩ := o3.there <;> cases c0 <;> rename_i zz
    · obtain ⟨xs, q3, _⟩ := o3; rw [q3] at e2; unfold LamX.CodeO at e2; cases e2
    · rcases o3 with ⟨_, _, _, q3, _⟩ | ⟨_, _, _, q3, _⟩ <;> rw [q3] at e2 <;> unfold LamX.CodeO at e2 <;> cases e2
    · obtain ⟨xs, q3, _⟩ := o3; rw [q3] at e2; unfold LamX.CodeO at e2; cases e2
    · rcases o3 with ⟨_, _, _, q3, _⟩ | ⟨_, _, _, q3, _⟩ <;> rw [q3] at e2 <;> unfold LamX.CodeO at e2 <;> cases e2
  · by_cases hj : j = i
    · subst hj
      rw [List.getElem?_set_self hi] at h2
      cases h2
      rw [hσ] at h1; cases h1
      rcases hk with ⟨c, rfl, rfl⟩ | ⟨c, rfl, rfl⟩
      · obtain ⟨b', e1, z1, z2, z3, _⟩ := r.slot j _ _ hσ hρ
        cases e1; exact ⟨a, rfl, z1, z2, z3, ho⟩
      · obtain ⟨b', e1, z1, z2, z3, _⟩ := r.slot j _ _ hσ hρ
        cases e1; exact ⟨a, rfl, z1, z2, z3, ho⟩
    · rw [List.getElem?_set_ne (Ne.symm hj)] at h2
      refine (r.slot j v dv1 h1 h2).mono (GE.refl G).rd (fun _ _ _ z => z) fun b u ev hd q => kn b u (fun z => ?_) q
      rcases r.apart j i v dv1 dv hj h1 (by rw [hσ, ev, z]) h2 hρ with q1 | q1
      · exact hd q1
      · exact hc q1
  · by_cases hj : j = i
    · subst hj; exact ⟨_, hσ⟩
    · rw [List.getElem?_set_ne (Ne.symm hj)] at h; exact r.has j dv1 h
  · have old : ∀ (m : Nat) (d : DV), (ρ.set i (some dv'))[m]? = some (some d) → ∃ d0, ρ[m]? = some (some d0) ∧ (d0.oc? = none → d.oc? = none) := fun m d hm => by
      by_cases z : m = i
      · subst z
        refine ⟨dv, hρ, fun q => absurd q hc⟩
      · rw [List.getElem?_set_ne (Ne.symm z)] at hm
        exact ⟨d, hm, id⟩
    obtain ⟨e1, k1, l1⟩ := old j d1 h3
    obtain ⟨e2, k2, l2⟩ := old k d2 h4
    exact (r.apart j k v e1 e2 hjk h1 h2 k1 k2).imp l1 l2
end
end DL
end

section
set_option Elab.async false
set_option linter.all false
set_option maxRecDepth 100000
set_option maxHeartbeats 1000000
namespace DL
open PySem PySem.Spec PyProof.Rows L2
variable [Tbl]
section
variable {K : PySem.W.Frag} {e : Ent} {G H : Hp} {σ : L2.St} {ρ : Rho}
/-- the object of an own content is data once it is in the ground -/
theorem OwnAt.rd {a : Addr} {c : OC} {u : HO} (o : OwnAt K G H a c) (hu : H a = some u) (hG : G a = none) : RD K (upd G a u) (.ref a) c.data := by
  have g : RdLe G (upd G a u) := (ge_upd hG).rd
  cases c with
  | lst ds =>
    obtain ⟨xs, h1, r⟩ := o
    rw [hu] at h1; cases h1
    exact .lst (.inl (.inl upd_same)) (r.mono g)
  | dic t kvs =>
    rcases o with ⟨ft, es, ds, h1, r, q⟩ | ⟨ft, es, ds, h1, r, q⟩
    · rw [hu] at h1; cases h1
      subst q
      exact .dK (.inl upd_same) (r.mono g)
    · rw [hu] at h1; cases h1
      subst q
      exact .dT (.inl upd_same) (r.mono g)
/-- a slot's own object is frozen -/
theorem Rp.freezeSlot (r : Rp K e G H σ ρ) {i : Nat} {v : V} {c : OC} (hσ : σ[i]? = some (some v)) (hρ : ρ[i]? = some (some (.ow c))) : ∃ G1, Rp K e G1 H σ (ρ.set i (some (.sh c.data))) ∧ GE G G1 ∧ RD K G1 v c.data := by
  obtain ⟨a, rfl, hG, h0, hP, o⟩ := r.slot i v _ hσ hρ
  obtain ⟨u, hu, ht, _⟩ := o.there
  have hi := r.len' hσ
  have rd := o.rd hu hG
  -- first forget the slot's kind
  have r1 : Rp K e G H σ (ρ.set i (some (.op a))) := by
    refine ⟨r.le, r.nt, r.bg, r.mt, r.tb, r.new, r.ge, r.pr, r.tabs, by rw [List.length_set]; exact r.len, fun j w dv h1 h2 => ?_, fun j dv h => ?_, fun j k w d1 d2 hjk h1 h2 h3 h4 => ?_⟩
    · by_cases hj : j = i
      · subst hj
        rw [List.getElem?_set_self hi] at h2; cases h2
        rw [hσ] at h1; cases h1; rfl
      · rw [List.getElem?_set_ne (Ne.symm hj)] at h2
        exact r.slot j w dv h1 h2
    · by_cases hj : j = i
      · subst hj; exact ⟨_, hσ⟩
      · rw [List.getElem?_set_ne (Ne.symm hj)] at h; exact r.has j dv h
    · by_cases hj : j = i
      · subst hj
        rw [List.getElem?_set_self hi] at h3; cases h3
        exact .inl rfl
      · by_cases hk : k = i
        · subst hk
          rw [List.getElem?_set_self hi] at h4; cases h4
          exact .inr rfl
        · rw [List.getElem?_set_ne (Ne.symm hj)] at h3
          rw [List.getElem?_set_ne (Ne.symm hk)] at h4
          exact r.apart j k w d1 d2 hjk h1 h2 h3 h4
  have r2 : Rp K e (upd G a u) H σ (ρ.set i (some (.op a))) := r1.freeze hu hG h0 hP ht fun j dv h1 h2 => by
    by_cases hj : j = i
    · subst hj
      rw [List.getElem?_set_self hi] at h1; cases h1; rfl
    · rw [List.getElem?_set_ne (Ne.symm hj)] at h1
      rcases r.apart j i _ dv _ hj h2 hσ h1 hρ with z | z
      · exact z
      · exact absurd z (by simp [DV.oc?])
  refine ⟨upd G a u, ⟨r2.le, r2.nt, r2.bg, r2.mt, r2.tb, r2.new, r2.ge, r2.pr, r2.tabs, by rw [List.length_set]; exact r.len, fun j w dv h1 h2 => ?_, fun j dv h => ?_, fun j k w d1 d2 hjk h1 h2 h3 h4 => ?_⟩, ge_upd hG, rd⟩
  · by_cases hj : j = i
    · subst hj
      rw [List.getElem?_set_self hi] at h2; cases h2
      rw [hσ] at h1; cases h1; exact rd
    · rw [List.getElem?_set_ne (Ne.symm hj)] at h2
      exact r2.slot j w dv h1 (by rw [List.getElem?_set_ne (Ne.symm hj)]; exact h2)
  · by_cases hj : j = i
    · subst hj; exact ⟨_, hσ⟩
    · rw [List.getElem?_set_ne (Ne.symm hj)] at h; exact r.has j dv h
  · have old : ∀ (m : Nat) (d : DV), (ρ.set i (some (DV.sh c.data)))[m]? = some (some d) → m = i ∧ d.oc? = none ∨ ρ[m]? = some (some d) := fun m d hm => by
      by_cases z : m = i
      · subst z
        rw [List.getElem?_set_self hi] at hm; cases hm
        exact .inl ⟨rfl, rfl⟩
      · rw [List.getElem?_set_ne (Ne.symm z)] at hm
        exact .inr hm
    rcases old j d1 h3 with ⟨_, q⟩ | q1
    · exact .inl q
    · rcases old k d2 h4 with ⟨_, q⟩ | q2
      · exact .inr q
      · exact r.apart j k w d1 d2 hjk h1 h2 q1 q2
/-- slots are forgotten -/
theorem Rp.forget (r : Rp K e G H σ ρ) {σ' : L2.St} {ρ' : Rho} (hl : σ'.length = ρ'.length) (h : ∀ (i : Nat) (dv : DV), ρ'[i]? = some (some dv) → ρ[i]? = some (some dv) ∧ σ'[i]? = σ[i]?) : Rp K e G H σ' ρ' :=
  ⟨r.le, r.nt, r.bg, r.mt, r.tb, r.new, r.ge, r.pr, r.tabs, hl, fun i v dv h1 h2 => by
    obtain ⟨q1, q2⟩ := h i dv h2
    exact r.slot i v dv (by rw [← q2]; exact h1) q1, fun i dv h1 => by
    obtain ⟨q1, q2⟩ := h i dv h1
    obtain ⟨v, z⟩ := r.has i dv q1
    exact ⟨v, by rw [q2]; exact z⟩, fun i j v d1 d2 hij h1 h2 h3 h4 => by
    obtain ⟨q1, q2⟩ := h i d1 h3
    obtain ⟨q3, q4⟩ := h j d2 h4
    exact r.apart i j v d1 d2 hij (by rw [← q2]; exact h1) (by rw [← q4]; exact h2) q1 q3⟩
/-- a slot is set -/
theorem Rp.store (r : Rp K e G H σ ρ) {i : Nat} {v : V} {dv : DV} (hi : i < ρ.length) (hv : VOk K e G H σ ρ v dv) (hb : ∀ j, dv ≠ .bw j) : Rp K e G H (σ.set i (some v)) (ρ.set i (some dv)) := by
  have hiσ : i < σ.length := by rw [r.len]; exact hi
  have sl : SlotOk K e G H v dv := by
    cases dv with
    | sh d => exact hv
    | ow c => obtain ⟨a, h1, h2, h3, h4, h5, _⟩ := hv; exact ⟨a, h1, h2, h3, h4, h5⟩
    | mu c => exact hv.elim
    | op a => exact hv
    | bw j => exact absurd rfl (hb j)
  refine ⟨r.le, r.nt, r.bg, r.mt, r.tb, r.new, r.ge, r.pr, r.tabs, by rw [List.length_set, List.length_set]; exact r.len, fun j w d1 h1 h2 => ?_, fun j d1 h => ?_, fun j k w d1 d2 hjk h1 h2 h3 h4 => ?_⟩
  · by_cases hj : j = i
    · subst hj
      rw [List.getElem?_set_self hi] at h2; cases h2
      rw [List.getElem?_set_self hiσ] at h1; cases h1
      exact sl
    · rw [List.getElem?_set_ne (Ne.symm hj)] at h1 h2
      exact r.slot j w d1 h1 h2
  · by_cases hj : j = i
    · subst hj
      exact ⟨v, List.getElem?_set_self hiσ⟩
    · rw [List.getElem?_set_ne (Ne.symm hj)] at h ⊢
      exact r.has j d1 h
  · by_cases hj : j = i
    · subst hj
      rw [List.getElem?_set_self hi] at h3; cases h3
      rw [List.getElem?_set_self hiσ] at h1; cases h1
      rw [List.getElem?_set_ne hjk] at h2 h4
      cases dv with
      | ow c => obtain ⟨a, _, _, _, _, _, z⟩ := hv; exact .inr (z k d2 h4 h2)
      | sh d => exact .inl rfl
      | mu c => exact hv.elim
      | op a => exact .inl rfl
      | bw j => exact .inl rfl
    · by_cases hk : k = i
      · subst hk
        rw [List.getElem?_set_self hi] at h4; cases h4
        rw [List.getElem?_set_self hiσ] at h2; cases h2
        rw [List.getElem?_set_ne (Ne.symm hj)] at h1 h3
        cases dv with
        | ow c => obtain ⟨a, _, _, _, _, _, z⟩ := hv; exact .inl (z j d1 h3 h1)
        | sh d => exact .inr rfl
        | mu c => exact hv.elim
        | op a => exact .inr rfl
        | bw j => exact .inr rfl
      · rw [List.getElem?_set_ne (Ne.symm hj)] at h1 h3
        rw [List.getElem?_set_ne (Ne.symm hk)] at h2 h4
        exact r.apart j k w d1 d2 hjk h1 h2 h3 h4

/-! ### what may be read, what is kept -/
/-- v may be read as d -/
def Pk (K : PySem.W.Frag) (G H : Hp) (v : V) (d : PyData) : Prop := RD K G v d ∨ ∃ a c, v = .ref a ∧ OwnAt K G H a c ∧ d = c.data
def peek (ρ : Rho) : DV → Option PyData
  | .sh d => some d
  | .ow c => some c.data
  | .mu c => none
  | .op _ => none
  | .bw i => match ρ[i]? with
    | some (some (.sh d)) => some d
    | some (some (.ow c)) => some c.data
    | some (some (.mu c)) => some c.data
    | _ => none
theorem peek_ok (r : Rp K e G H σ ρ) {v : V} {dv : DV} {d : PyData} (hv : VOk K e G H σ ρ v dv) (h : peek ρ dv = some d) : Pk K G H v d := by
  cases dv with
  | sh x => simp [peek] at h; subst h; exact .inl hv
  | ow c =>
    simp [peek] at h; subst h
    obtain ⟨a, h1, _, _, _, o, _⟩ := hv
    exact .inr ⟨a, c, h1, o, rfl⟩
  | mu c => simp [peek] at h
  | op a => simp [peek] at h
  | bw i =>
    have hv : σ[i]? = some (some v) := hv
    have h : (match ρ[i]? with
      | some (some (.sh d)) => some d
      | some (some (.ow c)) => some c.data
      | some (some (.mu c)) => some c.data
      | _ => none) = some d := h
    split at h
    · rename_i x q
      cases h
      exact .inl (r.slot i v _ hv q)
    · rename_i c q
      cases h
      obtain ⟨a, h1, _, _, _, o⟩ := r.slot i v _ hv q
      exact .inr ⟨a, c, h1, o, rfl⟩
    · rename_i c q
      cases h
      obtain ⟨a, h1, _, _, _, o⟩ := r.slot i v _ hv q
      exact .inr ⟨a, c, h1, o, rfl⟩
    · cases h
def keep : DV → DV
  | .ow c => .sh c.data
  | dv => dv
theorem Rp.freezeV (r : Rp K e G H σ ρ) {v : V} {c : OC} (hv : VOk K e G H σ ρ v (.ow c)) : ∃ G1, Rp K e G1 H σ ρ ∧ GE G G1 ∧ RD K G1 v c.data := by
  obtain ⟨a, rfl, hG, h0, hP, o, hs⟩ := hv
  obtain ⟨u, hu, ht, _⟩ := o.there
  exact ⟨upd G a u, r.freeze hu hG h0 hP ht hs, ge_upd hG, o.rd hu hG⟩
theorem keep_ok (r : Rp K e G H σ ρ) {v : V} {dv : DV} (hv : VOk K e G H σ ρ v dv) : ∃ G1, Rp K e G1 H σ ρ ∧ GE G G1 ∧ VOk K e G1 H σ ρ v (keep dv) := by
  cases dv with
  | ow c => exact r.freezeV hv
  | sh d => exact ⟨G, r, GE.refl G, hv⟩
  | mu c => exact hv.elim
  | op a => exact ⟨G, r, GE.refl G, hv⟩
  | bw i => exact ⟨G, r, GE.refl G, hv⟩
/-- a kept value stays what it is -/
def kept : DV → Bool
  | .sh _ => true
  | .op _ => true
  | .bw _ => true
  | _ => false
theorem keep_kept (dv : DV) (h : ∀ c, dv ≠ .mu c) : kept (keep dv) = true := by
  cases dv <;> first | rfl | exact absurd rfl (h _)
theorem VOk.later {v : V} {dv : DV} {e' : Ent} {G' H' : Hp} {ρ' : Rho} (hv : VOk K e G H σ ρ v dv) (g : RdLe G G') (hk : kept dv = true) : VOk K e' G' H' σ ρ' v dv := by
  cases dv with
  | sh d => exact RD.mono g hv
  | ow c => cases hk
  | mu c => cases hk
  | op a => exact hv
  | bw i => exact hv
/-- as shared data -/
def coerce (dv : DV) (ρ : Rho) : R PyData := match dv with
  | .sh d => .ok d ρ
  | .ow c => .ok c.data ρ
  | .mu _ => .bad
  | .op _ => .bad
  | .bw i => match ρ[i]? with
    | some (some (.sh d)) => .ok d ρ
    | some (some (.ow c)) => .ok c.data (ρ.set i (some (.sh c.data)))
    | _ => .bad
theorem coerce_noexc {dv : DV} {ρ ρ' : Rho} {c : Str} : coerce dv ρ ≠ .exc c ρ' := by
  cases dv with
  | sh x => exact fun h => by cases h
  | ow c => exact fun h => by cases h
  | mu c => exact fun h => by cases h
  | op a => exact fun h => by cases h
  | bw i =>
    intro h
    have h : (match ρ[i]? with
      | some (some (.sh d)) => R.ok d ρ
      | some (some (.ow c)) => .ok c.data (ρ.set i (some (.sh c.data)))
      | _ => .bad) = .exc c ρ' := h
    split at h <;> cases h
theorem coerce_ok (r : Rp K e G H σ ρ) {v : V} {dv : DV} {d : PyData} {ρ' : Rho} (hv : VOk K e G H σ ρ v dv) (h : coerce dv ρ = .ok d ρ') : ∃ G1, Rp K e G1 H σ ρ' ∧ GE G G1 ∧ RD K G1 v d := by
  cases dv with
  | sh x => cases h; exact ⟨G, r, GE.refl G, hv⟩
  | ow c => cases h; exact r.freezeV hv
  | mu c => cases h
  | op a => cases h
  | bw i =>
    have h : (match ρ[i]? with
      | some (some (.sh d)) => R.ok d ρ
      | some (some (.ow c)) => .ok c.data (ρ.set i (some (.sh c.data)))
      | _ => .bad) = .ok d ρ' := h
    have hv : σ[i]? = some (some v) := hv
    split at h
    · rename_i q
      cases h; exact ⟨G, r, GE.refl G, r.slot _ v _ hv q⟩
    · rename_i q
      cases h; exact r.freezeSlot hv q
    · cases h

/-! ### what follows -/
variable {α β : Type}
def Post (K : PySem.W.Frag) (cv : Str → Value) (W : WX) (e : Ent) (G : Hp) (σ : L2.St) (r : R α) (k : α → Rho → Hp → Hp → Prop) : Prop := match r with
  | .bad => False
  | .exc c ρ' => ∀ H' G', Rp K e G' H' σ ρ' → GE G G' → W (cv c) none σ H'
  | .ok x ρ' => ∀ H' G', Rp K e G' H' σ ρ' → GE G G' → k x ρ' G' H'
variable {cv : Str → Value} {W : WX}
theorem Post.ge {G1 : Hp} {r : R α} {k : α → Rho → Hp → Hp → Prop} (h : Post K cv W e G σ r k) (g : GE G G1) : Post K cv W e G1 σ r k := by
  cases r with
  | bad => exact h
  | exc c ρ' => exact fun H' G' rp ge => h H' G' rp (g.trans ge)
  | ok x ρ' => exact fun H' G' rp ge => h H' G' rp (g.trans ge)
theorem Post.bind {r : R α} {f : α → Rho → R β} {k : β → Rho → Hp → Hp → Prop} {k1 : α → Rho → Hp → Hp → Prop} (h : Post K cv W e G σ (r.bind f) k) (hk : ∀ x ρ' G' H', Rp K e G' H' σ ρ' → GE G G' → Post K cv W e G' σ (f x ρ') k → k1 x ρ' G' H') : Post K cv W e G σ r k1 := by
  cases r with
  | bad => exact h
  | exc c ρ' => exact h
  | ok x ρ' => exact fun H' G' rp ge => hk x ρ' G' H' rp ge (Post.ge h ge)
theorem Post.imp {r : R α} {k k1 : α → Rho → Hp → Hp → Prop} (h : Post K cv W e G σ r k) (hk : ∀ x ρ' G' H', Rp K e G' H' σ ρ' → GE G G' → k x ρ' G' H' → k1 x ρ' G' H') : Post K cv W e G σ r k1 := by
  cases r with
  | bad => exact h
  | exc c ρ' => exact h
  | ok x ρ' => exact fun H' G' rp ge => hk x ρ' G' H' rp ge (h H' G' rp ge)
end
/-- the readings -/
abbrev DE := Rho → R DV
abbrev DA := Rho → R (List DV)
abbrev DB := Rho → R Bool
def VOks (K : PySem.W.Frag) (e : Ent) (G H : Hp) (σ : L2.St) (ρ : Rho) : List V → List DV → Prop
  | [], [] => True
  | v :: vs, d :: ds => VOk K e G H σ ρ v d ∧ kept d = true ∧ VOks K e G H σ ρ vs ds
  | _, _ => False
def tD (K : PySem.W.Frag) (cv : Str → Value) (W : WX) (δ : DE) : TE := fun σ H Q => ∃ e G ρ, Rp K e G H σ ρ ∧ Post K cv W e G σ (δ ρ) fun dv ρ' G' H' => ∀ v, VOk K e G' H' σ ρ' v dv → Q v H'
def tB (K : PySem.W.Frag) (cv : Str → Value) (W : WX) (δ : DB) : TT := fun σ H Q => ∃ e G ρ, Rp K e G H σ ρ ∧ Post K cv W e G σ (δ ρ) fun b ρ' G' H' => Q b H'
def tA (K : PySem.W.Frag) (cv : Str → Value) (W : WX) (δ : DA) : TA := fun σ H Q => ∃ e G ρ, Rp K e G H σ ρ ∧ Post K cv W e G σ (δ ρ) fun dvs ρ' G' H' => ∀ vs, VOks K e G' H' σ ρ' vs dvs → Q vs H'
theorem PE_imp {X : Cx} {e : Expr} {t t' : TE} (h : PE X e t) (i : ∀ σ H Q, t' σ H Q → t σ H Q) : PE X e t' := ⟨fun pins s σ H Q I q => h.run pins s σ H Q I (i σ H Q q)⟩
theorem PT_imp {X : Cx} {e : Expr} {t t' : TT} (h : PT X e t) (i : ∀ σ H Q, t' σ H Q → t σ H Q) : PT X e t' := ⟨fun pins s σ H Q I q => h.run pins s σ H Q I (i σ H Q q)⟩
theorem PW_imp {X : Cx} {e : Expr} {t t' : TT} (h : PW X e t) (i : ∀ σ H Q, t' σ H Q → t σ H Q) : PW X e t' := ⟨fun wh pins s σ H Q I q => h.run wh pins s σ H Q I (i σ H Q q)⟩
theorem PA_imp {X : Cx} {e : List Expr} {t t' : TA} (h : PA X e t) (i : ∀ σ H Q, t' σ H Q → t σ H Q) : PA X e t' := ⟨fun pos pins s σ H Q I q => h.run pos pins s σ H Q I (i σ H Q q)⟩
theorem PS_imp {X : Cx} {e : Stmt} {t t' : TS} (h : PS X e t) (i : ∀ D σ H, t' D σ H → t D σ H) : PS X e t' := ⟨fun pins s σ H D I q => h.run pins s σ H D I (i D σ H q)⟩
theorem PSs_imp {X : Cx} {e : List Stmt} {t t' : TS} (h : PSs X e t) (i : ∀ D σ H, t' D σ H → t D σ H) : PSs X e t' := ⟨fun pins s σ H D I q => h.run pins s σ H D I (i D σ H q)⟩
theorem VOks.later {K : PySem.W.Frag} {e e' : Ent} {G H G' H' : Hp} {σ : L2.St} {ρ ρ' : Rho} (g : RdLe G G') : ∀ {vs : List V} {ds : List DV}, VOks K e G H σ ρ vs ds → VOks K e' G' H' σ ρ' vs ds
  | [], [], _ => trivial
  | _ :: _, _ :: _, ⟨h, k, t⟩ => ⟨h.later g k, k, t.later g⟩
  | [], _ :: _, h => h.elim
  | _ :: _, [], h => h.elim
end DL
end

section
set_option Elab.async false
set_option linter.all false
set_option maxRecDepth 100000
set_option maxHeartbeats 1000000
namespace DL
open PySem PySem.Spec PyProof.Rows L2
variable [Tbl]
def ofO {α : Type} (o : Option α) (ρ : Rho) : R α := match o with
  | some x => .ok x ρ
  | none => .bad
@[simp] theorem ofO_some {α : Type} (x : α) (ρ : Rho) : ofO (some x) ρ = .ok x ρ := rfl
@[simp] theorem ofO_none {α : Type} (ρ : Rho) : ofO (none : Option α) ρ = .bad := rfl
def dC (d : PyData) : DE := fun ρ => .ok (.sh d) ρ
def dV (i : Nat) : DE := fun ρ => match ρ[i]? with
  | some (some (.sh d)) => .ok (.sh d) ρ
  | some (some (.op a)) => .ok (.op a) ρ
  | some (some (.ow _)) => .ok (.bw i) ρ
  | some (some (.mu _)) => .ok (.bw i) ρ
  | _ => .bad
def dBin (g : PyData → PyData → Option DV) (δa δb : DE) : DE := fun ρ => (δa ρ).bind fun x ρ1 => (δb ρ1).bind fun y ρ2 =>
  match peek ρ2 (keep x), peek ρ2 y with
  | some a, some b => ofO (g a b) ρ2
  | _, _ => .bad
def dTest (δ : DE) : DB := fun ρ => (δ ρ).bind fun x ρ1 => match peek ρ1 x with
  | some (.bool b) => .ok b ρ1
  | _ => .bad
def dNotT (δ : DB) : DB := fun ρ => (δ ρ).bind fun b ρ1 => .ok (!b) ρ1
def dAndT (δ ε : DB) : DB := fun ρ => (δ ρ).bind fun b ρ1 => if b = true then ε ρ1 else .ok false ρ1
def dOrT (δ ε : DB) : DB := fun ρ => (δ ρ).bind fun b ρ1 => if b = true then .ok true ρ1 else ε ρ1
def dNotV (δ : DE) : DE := fun ρ => (dTest δ ρ).bind fun b ρ1 => .ok (.sh (.bool (!b))) ρ1
def dAndV (δ ε : DE) : DE := fun ρ => (dTest δ ρ).bind fun b ρ1 => if b = true then ε ρ1 else .ok (.sh (.bool false)) ρ1
def dOrV (δ ε : DE) : DE := fun ρ => (dTest δ ρ).bind fun b ρ1 => if b = true then .ok (.sh (.bool true)) ρ1 else ε ρ1
def dIf (c : DB) (δ ε : DE) : DE := fun ρ => (c ρ).bind fun b ρ1 => if b = true then δ ρ1 else ε ρ1
def dNil : DA := fun ρ => .ok [] ρ
def dCons (δ : DE) (ε : DA) : DA := fun ρ => (δ ρ).bind fun x ρ1 => (ε ρ1).bind fun xs ρ2 => .ok (keep x :: xs) ρ2
def coerceAll : List DV → Rho → R (List PyData)
  | [], ρ => .ok [] ρ
  | x :: xs, ρ => (coerce x ρ).bind fun d ρ1 => (coerceAll xs ρ1).bind fun ds ρ2 => .ok (d :: ds) ρ2
def dTup (δ : DA) : DE := fun ρ => (δ ρ).bind fun xs ρ1 => (coerceAll xs ρ1).bind fun ds ρ2 => if ds.length ≤ 64 then .ok (.sh (.tuple ds)) ρ2 else .bad
def dLst (δ : DA) : DE := fun ρ => (δ ρ).bind fun xs ρ1 => (coerceAll xs ρ1).bind fun ds ρ2 => if ds.length ≤ 64 then .ok (.ow (.lst ds)) ρ2 else .bad
/-- an operator of two values, by the data -/
def OpD (X : Cx) (f : Value → Value → Sem Value) (g : PyData → PyData → Option DV) : Prop :=
  ∃ r : R2, OpR X f r ∧ ∀ (e : Ent) (G H : Hp) (σ : L2.St) (ρ : Rho) (x y : V) (a b : PyData) (c : DV) (Q : VK), Rp X.K e G H σ ρ → Pk X.K G H x a → Pk X.K G H y b → g a b = some c →
    (∀ v H' G', Rp X.K e G' H' σ ρ → GE G G' → VOk X.K e G' H' σ ρ v c → Q v H') → r x y H Q
section
variable {X : Cx} {cv : Str → Value} {W : WX}
abbrev DEx (X : Cx) (cv : Str → Value) (W : WX) (e : Expr) (δ : DE) : Prop := PE X e (tD X.K cv W δ)
abbrev DTx (X : Cx) (cv : Str → Value) (W : WX) (e : Expr) (δ : DB) : Prop := PT X e (tB X.K cv W δ)
abbrev DWx (X : Cx) (cv : Str → Value) (W : WX) (e : Expr) (δ : DB) : Prop := PW X e (tB X.K cv W δ)
abbrev DAx (X : Cx) (cv : Str → Value) (W : WX) (es : List Expr) (δ : DA) : Prop := PA X es (tA X.K cv W δ)
theorem tD_pure {K : PySem.W.Frag} {δ : DE} {σ : L2.St} {H : Hp} {Q : VK} {d : PyData} {v : V} (h : tD K cv W δ σ H Q) (hd : ∀ ρ, δ ρ = .ok (.sh d) ρ) (hv : ∀ G, RD K G v d) : Q v H := by
  obtain ⟨e, G, ρ, rp, p⟩ := h
  rw [hd] at p
  exact p H G rp (GE.refl G) v (hv G)
theorem de_int {i j pos} : DEx X cv W (.Constant (.int i) j pos) (dC (.int i)) := PE_imp pe_int fun _ _ _ h => tD_pure (v := .int i) h (fun _ => rfl) fun _ => .int i
theorem de_bl {b j pos} : DEx X cv W (.Constant (.bool b) j pos) (dC (.bool b)) := PE_imp pe_bl fun _ _ _ h => tD_pure (v := .bl b) h (fun _ => rfl) fun _ => .bl b
theorem de_non {j pos} : DEx X cv W (.Constant .none j pos) (dC .none) := PE_imp pe_non fun _ _ _ h => tD_pure (v := .non) h (fun _ => rfl) fun _ => .non
theorem de_str {x j pos} : DEx X cv W (.Constant (.str x) j pos) (dC (.str x)) := PE_imp pe_str fun _ _ _ h => tD_pure (v := .str x) h (fun _ => rfl) fun _ => .str x
theorem de_gint {x : Str} {i : Int} {t : Tok} {pos : Pos} (hm : X.mg x = some (.int i t)) (hg : Gl X x := by rfl) (hd : (x == ("__debug__" : Str)) = false := by decide) : DEx X cv W (.Name x pos) (dC (.int i)) :=
  PE_imp (pe_glob (v := .int i) hg hm ⟨_, rfl⟩ hd) fun _ _ _ h => tD_pure (v := .int i) h (fun _ => rfl) fun _ => .int i
theorem de_gstr {x z : Str} {t : Tok} {pos : Pos} (hm : X.mg x = some (.str z t)) (hg : Gl X x := by rfl) (hd : (x == ("__debug__" : Str)) = false := by decide) : DEx X cv W (.Name x pos) (dC (.str z)) :=
  PE_imp (pe_glob (v := .str z) hg hm ⟨_, rfl⟩ hd) fun _ _ _ h => tD_pure (v := .str z) h (fun _ => rfl) fun _ => .str z
/-- a name of the def -/
theorem de_var (i : Nat) {x : Str} {pos : Pos} (hN : X.N[i]? = some x := by rfl) (hv : Vis X.env.scope x := by first | exact Or.inl rfl | exact Or.inr (Or.inl rfl) | exact Or.inr (Or.inr rfl)) (hd : (x == ("__debug__" : Str)) = false := by decide)
    (hcd : (x == ("__classdict__" : Str)) = false := by decide) : DEx X cv W (.Name x pos) (dV i) := PE_imp (pe_var hN hv hd hcd) fun σ H Q ⟨e, G, ρ, rp, p⟩ => by
  unfold dV at p
  split at p
  · rename_i d q
    obtain ⟨v, hv⟩ := rp.has i _ q
    exact ⟨v, hv, p H G rp (GE.refl G) v (rp.slot i v _ hv q)⟩
  · rename_i d q
    obtain ⟨v, hv⟩ := rp.has i _ q
    exact ⟨v, hv, p H G rp (GE.refl G) v (rp.slot i v _ hv q)⟩
  · rename_i d q
    obtain ⟨v, hv⟩ := rp.has i _ q
    exact ⟨v, hv, p H G rp (GE.refl G) v hv⟩
  · rename_i d q
    obtain ⟨v, hv⟩ := rp.has i _ q
    exact ⟨v, hv, p H G rp (GE.refl G) v hv⟩
  · exact p.elim
theorem vok_notmu {K : PySem.W.Frag} {e : Ent} {G H : Hp} {σ : L2.St} {ρ : Rho} {v : V} {dv : DV} (h : VOk K e G H σ ρ v dv) : ∀ c, dv ≠ .mu c := fun c z => by subst z; exact h
/-- two values, one after the other: what is then known -/
theorem tD_two {K : PySem.W.Frag} {δa δb : DE} {σ : L2.St} {H : Hp} {R : V → V → Hp → Prop} {β : Type} {f : DV → DV → Rho → DL.R β} {k : β → Rho → Hp → Hp → Prop} {e : Ent} {G : Hp} {ρ : Rho} (rp : Rp K e G H σ ρ)
    (p : Post K cv W e G σ ((δa ρ).bind fun x ρ1 => (δb ρ1).bind fun y ρ2 => f (keep x) y ρ2) k)
    (hf : ∀ v u x y H2 G2 ρ2, Rp K e G2 H2 σ ρ2 → GE G G2 → VOk K e G2 H2 σ ρ2 v x → VOk K e G2 H2 σ ρ2 u y → Post K cv W e G2 σ (f x y ρ2) k → R v u H2) : tD K cv W δa σ H fun v H1 => tD K cv W δb σ H1 fun u H2 => R v u H2 := by
  refine ⟨e, G, ρ, rp, p.bind fun x ρ1 G1 H1 rp1 ge1 p1 v hv => ?_⟩
  obtain ⟨G1', rp1', ge1', hv'⟩ := keep_ok rp1 hv
  refine ⟨e, G1', ρ1, rp1', (p1.ge ge1').bind fun y ρ2 G2 H2 rp2 ge2 p2 u hu => ?_⟩
  exact hf v u (keep x) y H2 G2 ρ2 rp2 ((ge1.trans ge1').trans ge2) (hv'.later ge2.rd (keep_kept x (vok_notmu hv))) hu p2
theorem de_op {f : Operator} {a b : Expr} {δa δb : DE} {g : PyData → PyData → Option DV} {pos : Pos} (ho : OpD X (binaryOp f) g) (ha : DEx X cv W a δa) (hb : DEx X cv W b δb) : DEx X cv W (.BinOp a f b pos) (dBin g δa δb) := by
  obtain ⟨r, hr, hg⟩ := ho
  refine PE_imp (pe_op hr ha hb) fun σ H Q ⟨e, G, ρ, rp, p⟩ => ?_
  refine tD_two (f := fun x y ρ2 => match peek ρ2 x, peek ρ2 y with
    | some a, some b => ofO (g a b) ρ2
    | _, _ => .bad) rp p fun v u x y H2 G2 ρ2 rp2 ge2 hx hy p2 => ?_
  split at p2
  · rename_i a b q1 q2
    cases q3 : g a b with
    | none => rw [q3] at p2; exact p2.elim
    | some c =>
      rw [q3] at p2
      exact hg e G2 H2 σ ρ2 v u a b c Q rp2 (peek_ok rp2 hx q1) (peek_ok rp2 hy q2) q3 fun v' H' G' rp' ge' hv' => p2 H' G' rp' ge' v' hv'
  · exact p2.elim
theorem de_cmp {f : CmpOp} {a b : Expr} {δa δb : DE} {g : PyData → PyData → Option DV} {pos : Pos} (ho : OpD X (compareOp f) g) (ha : DEx X cv W a δa) (hb : DEx X cv W b δb) (hm : behindInMarks f b = false := by first | rfl | exact nomark _) : DEx X cv W (.Compare a [f] [b] pos) (dBin g δa δb) := by
  obtain ⟨r, hr, hg⟩ := ho
  refine PE_imp (pe_cmpR hr ha hb hm) fun σ H Q ⟨e, G, ρ, rp, p⟩ => ?_
  refine tD_two (f := fun x y ρ2 => match peek ρ2 x, peek ρ2 y with
    | some a, some b => ofO (g a b) ρ2
    | _, _ => .bad) rp p fun v u x y H2 G2 ρ2 rp2 ge2 hx hy p2 => ?_
  split at p2
  · rename_i a b q1 q2
    cases q3 : g a b with
    | none => rw [q3] at p2; exact p2.elim
    | some c =>
      rw [q3] at p2
      exact hg e G2 H2 σ ρ2 v u a b c Q rp2 (peek_ok rp2 hx q1) (peek_ok rp2 hy q2) q3 fun v' H' G' rp' ge' hv' => p2 H' G' rp' ge' v' hv'
  · exact p2.elim
/-! ### tests -/
theorem bl_of {K : PySem.W.Frag} {G H : Hp} {v : V} {b : Bool} (h : Pk K G H v (.bool b)) : v = .bl b := by
  rcases h with h | ⟨a, c, _, _, z⟩
  · cases h; rfl
  · cases c <;> cases z
theorem dt_of {a : Expr} {δ : DE} (ha : DEx X cv W a δ) (he : ∀ whole, isTrue a X.env whole = (do let v ← whole; standAt a.pos; holding [v] (truthy v)) := by intro _; rfl) : DTx X cv W a (dTest δ) := PT_imp (pt_val ha he) fun σ H Q ⟨e, G, ρ, rp, p⟩ => by
  refine ⟨e, G, ρ, rp, p.bind fun x ρ1 G1 H1 rp1 ge1 p1 v hv => ?_⟩
  split at p1
  · rename_i b q
    exact ⟨b, bl_of (peek_ok rp1 hv q), p1 H1 G1 rp1 (GE.refl G1)⟩
  · exact p1.elim
theorem dt_w {a : Expr} {δ : DB} (ha : DWx X cv W a δ) : DTx X cv W a δ := PW.pt ha
theorem tB_seq {K : PySem.W.Frag} {δ : DB} {β : Type} {f : Bool → Rho → DL.R β} {k : β → Rho → Hp → Hp → Prop} {σ : L2.St} {H : Hp} {Q : Bool → Hp → Prop} {e : Ent} {G : Hp} {ρ : Rho} (rp : Rp K e G H σ ρ) (p : Post K cv W e G σ ((δ ρ).bind f) k)
    (hf : ∀ b H1 G1 ρ1, Rp K e G1 H1 σ ρ1 → GE G G1 → Post K cv W e G1 σ (f b ρ1) k → Q b H1) : tB K cv W δ σ H Q := ⟨e, G, ρ, rp, p.bind fun b ρ1 G1 H1 rp1 ge1 p1 => hf b H1 G1 ρ1 rp1 ge1 p1⟩
theorem dt_not {a : Expr} {δ : DB} {pos : Pos} (ha : DTx X cv W a δ) : DTx X cv W (.UnaryOp .Not a pos) (dNotT δ) := PT_imp (pt_not ha) fun σ H Q ⟨e, G, ρ, rp, p⟩ =>
  tB_seq rp p fun b H1 G1 ρ1 rp1 _ p1 => p1 H1 G1 rp1 (GE.refl G1)
theorem dw_and {a b : Expr} {r : List Expr} {δ ε : DB} {pos : Pos} (ha : DTx X cv W a δ) (hb : DWx X cv W (.BoolOp .And (b :: r) pos) ε) : DWx X cv W (.BoolOp .And (a :: b :: r) pos) (dAndT δ ε) := PW_imp (pw_and ha hb) fun σ H Q ⟨e, G, ρ, rp, p⟩ =>
  tB_seq rp p fun c H1 G1 ρ1 rp1 _ p1 => by
    cases c with
    | true => rw [if_pos rfl]; exact ⟨e, G1, ρ1, rp1, p1⟩
    | false => rw [if_neg Bool.false_ne_true]; exact p1 H1 G1 rp1 (GE.refl G1)
theorem dw_or {a b : Expr} {r : List Expr} {δ ε : DB} {pos : Pos} (ha : DTx X cv W a δ) (hb : DWx X cv W (.BoolOp .Or (b :: r) pos) ε) : DWx X cv W (.BoolOp .Or (a :: b :: r) pos) (dOrT δ ε) := PW_imp (pw_or ha hb) fun σ H Q ⟨e, G, ρ, rp, p⟩ =>
  tB_seq rp p fun c H1 G1 ρ1 rp1 _ p1 => by
    cases c with
    | true => rw [if_pos rfl]; exact p1 H1 G1 rp1 (GE.refl G1)
    | false => rw [if_neg Bool.false_ne_true]; exact ⟨e, G1, ρ1, rp1, p1⟩
theorem dw_and1 {a : Expr} {δ : DB} {pos : Pos} (ha : DTx X cv W a δ) : DWx X cv W (.BoolOp .And [a] pos) δ := pw_and1 ha
theorem dw_or1 {a : Expr} {δ : DB} {pos : Pos} (ha : DTx X cv W a δ) : DWx X cv W (.BoolOp .Or [a] pos) δ := pw_or1 ha
/-- a value that is True or False, then what follows -/
theorem tD_bl {K : PySem.W.Frag} {δ : DE} {β : Type} {f : Bool → Rho → DL.R β} {k : β → Rho → Hp → Hp → Prop} {σ : L2.St} {H : Hp} {Q : VK} {e : Ent} {G : Hp} {ρ : Rho} (rp : Rp K e G H σ ρ) (p : Post K cv W e G σ ((dTest δ ρ).bind f) k)
    (hf : ∀ b H1 G1 ρ1, Rp K e G1 H1 σ ρ1 → GE G G1 → Post K cv W e G1 σ (f b ρ1) k → Q (.bl b) H1) : tD K cv W δ σ H Q := by
  have p' : Post K cv W e G σ ((δ ρ).bind fun x ρ1 => (match peek ρ1 x with
    | some (.bool b) => R.ok b ρ1
    | _ => .bad).bind f) k := by
    have q : (dTest δ ρ).bind f = (δ ρ).bind fun x ρ1 => (match peek ρ1 x with
      | some (.bool b) => R.ok b ρ1
      | _ => .bad).bind f := by
      unfold dTest
      cases δ ρ <;> rfl
    rw [← q]; exact p
  refine ⟨e, G, ρ, rp, p'.bind fun x ρ1 G1 H1 rp1 ge1 p1 v hv => ?_⟩
  split at p1
  · rename_i b q
    rw [bl_of (peek_ok rp1 hv q)]
    exact hf b H1 G1 ρ1 rp1 ge1 p1
  · exact p1.elim
theorem de_not {a : Expr} {δ : DE} {pos : Pos} (ha : DEx X cv W a δ) : DEx X cv W (.UnaryOp .Not a pos) (dNotV δ) := PE_imp (pe_not ha) fun σ H Q ⟨e, G, ρ, rp, p⟩ =>
  tD_bl rp p fun b H1 G1 ρ1 rp1 _ p1 => ⟨b, rfl, p1 H1 G1 rp1 (GE.refl G1) _ (.bl _)⟩
theorem de_and {a b : Expr} {r : List Expr} {δ ε : DE} {pos : Pos} (ha : DEx X cv W a δ) (hb : DEx X cv W (.BoolOp .And (b :: r) pos) ε) : DEx X cv W (.BoolOp .And (a :: b :: r) pos) (dAndV δ ε) := PE_imp (pe_and ha hb) fun σ H Q ⟨e, G, ρ, rp, p⟩ =>
  tD_bl rp p fun c H1 G1 ρ1 rp1 _ p1 => ⟨c, rfl, by
    cases c with
    | true => rw [if_pos rfl]; exact ⟨e, G1, ρ1, rp1, p1⟩
    | false => rw [if_neg Bool.false_ne_true]; exact p1 H1 G1 rp1 (GE.refl G1) _ (.bl _)⟩
theorem de_or {a b : Expr} {r : List Expr} {δ ε : DE} {pos : Pos} (ha : DEx X cv W a δ) (hb : DEx X cv W (.BoolOp .Or (b :: r) pos) ε) : DEx X cv W (.BoolOp .Or (a :: b :: r) pos) (dOrV δ ε) := PE_imp (pe_or ha hb) fun σ H Q ⟨e, G, ρ, rp, p⟩ =>
  tD_bl rp p fun c H1 G1 ρ1 rp1 _ p1 => ⟨c, rfl, by
    cases c with
    | true => rw [if_pos rfl]; exact p1 H1 G1 rp1 (GE.refl G1) _ (.bl _)
    | false => rw [if_neg Bool.false_ne_true]; exact ⟨e, G1, ρ1, rp1, p1⟩⟩
theorem de_one {a : Expr} {o} {δ : DE} {pos : Pos} (ha : DEx X cv W a δ) : DEx X cv W (.BoolOp o [a] pos) δ := pe_one ha
theorem de_if {c a b : Expr} {γ : DB} {δ ε : DE} {pos : Pos} (hc : DTx X cv W c γ) (ha : DEx X cv W a δ) (hb : DEx X cv W b ε) : DEx X cv W (.IfExp c a b pos) (dIf γ δ ε) := PE_imp (pe_ifExp hc ha hb) fun σ H Q ⟨e, G, ρ, rp, p⟩ =>
  tB_seq rp p fun t H1 G1 ρ1 rp1 _ p1 => by
    cases t with
    | true => rw [if_pos rfl]; exact ⟨e, G1, ρ1, rp1, p1⟩
    | false => rw [if_neg Bool.false_ne_true]; exact ⟨e, G1, ρ1, rp1, p1⟩
/-! ### argument lists, displays -/
theorem da_nil : DAx X cv W [] dNil := PA_imp pa_nil fun σ H Q ⟨e, G, ρ, rp, p⟩ => p H G rp (GE.refl G) [] trivial
theorem da_cons {a : Expr} {es : List Expr} {δ : DE} {ε : DA} (ha : DEx X cv W a δ) (hb : DAx X cv W es ε) (hs : starEach (a :: es) X.env = (false, eval a X.env) :: starEach es X.env := by rfl) : DAx X cv W (a :: es) (dCons δ ε) := PA_imp (pa_cons ha hb hs) fun σ H Q ⟨e, G, ρ, rp, p⟩ => by
  refine ⟨e, G, ρ, rp, Post.bind p fun x ρ1 G1 H1 rp1 ge1 p1 v hv => ?_⟩
  obtain ⟨G1', rp1', ge1', hv'⟩ := keep_ok rp1 hv
  refine ⟨e, G1', ρ1, rp1', (Post.ge p1 ge1').bind fun xs ρ2 G2 H2 rp2 ge2 p2 us hus => ?_⟩
  exact p2 H2 G2 rp2 (GE.refl G2) (v :: us) ⟨hv'.later ge2.rd (keep_kept x (vok_notmu hv)), keep_kept x (vok_notmu hv), hus⟩
theorem coerceAll_ok {K : PySem.W.Frag} {e : Ent} {H : Hp} {σ : L2.St} : ∀ {xs : List DV} {G : Hp} {ρ ρ' : Rho} {vs : List V} {ds : List PyData}, Rp K e G H σ ρ → VOks K e G H σ ρ vs xs → coerceAll xs ρ = .ok ds ρ' → ∃ G1, Rp K e G1 H σ ρ' ∧ GE G G1 ∧ RDs K G1 vs ds
  | [], G, ρ, ρ', [], ds, rp, _, h => by
    cases h
    exact ⟨G, rp, GE.refl G, .nil⟩
  | [], _, _, _, _ :: _, _, _, h, _ => h.elim
  | _ :: _, _, _, _, [], _, _, h, _ => h.elim
  | x :: xs, G, ρ, ρ', v :: vs, ds, rp, ⟨h1, h2, h3⟩, h => by
    unfold coerceAll at h
    cases q : coerce x ρ with
    | bad => rw [q] at h; cases h
    | exc c r => rw [q] at h; cases h
    | ok d ρ1 =>
      rw [q, R.bind_ok] at h
      obtain ⟨G1, rp1, ge1, rd1⟩ := coerce_ok rp h1 q
      cases q2 : coerceAll xs ρ1 with
      | bad => rw [q2] at h; cases h
      | exc c r => rw [q2] at h; cases h
      | ok ds2 ρ2 =>
        rw [q2, R.bind_ok] at h
        cases h
        obtain ⟨G2, rp2, ge2, rd2⟩ := coerceAll_ok rp1 (h3.later ge1.rd) q2
        exact ⟨G2, rp2, ge1.trans ge2, .cons (rd1.mono ge2.rd) rd2⟩
theorem coerceAll_noexc : ∀ {xs : List DV} {ρ ρ' : Rho} {c : Str}, coerceAll xs ρ ≠ .exc c ρ'
  | [], _, _, _ => fun h => by cases h
  | x :: xs, ρ, ρ', c => fun h => by
    unfold coerceAll at h
    cases q : coerce x ρ with
    | bad => rw [q] at h; cases h
    | exc c r => exact coerce_noexc q
    | ok d ρ1 =>
      rw [q, R.bind_ok] at h
      cases q2 : coerceAll xs ρ1 with
      | bad => rw [q2] at h; cases h
      | exc c r => exact coerceAll_noexc q2
      | ok ds2 ρ2 => rw [q2, R.bind_ok] at h; cases h
theorem small64 {n : Nat} (h : n ≤ 64) : n ≤ sizeLine := Nat.le_trans h (by decide)
theorem post_coerceAll {K : PySem.W.Frag} {e : Ent} {G H : Hp} {σ : L2.St} {ρ : Rho} {xs : List DV} {vs : List V} {β : Type} {f : List PyData → Rho → DL.R β} {k : β → Rho → Hp → Hp → Prop} {C : Prop} (rp : Rp K e G H σ ρ) (hv : VOks K e G H σ ρ vs xs)
    (p : Post K cv W e G σ ((coerceAll xs ρ).bind f) k) (hf : ∀ ds ρ' G1, Rp K e G1 H σ ρ' → GE G G1 → RDs K G1 vs ds → Post K cv W e G1 σ (f ds ρ') k → C) : C := by
  cases q : coerceAll xs ρ with
  | bad => rw [q] at p; exact p.elim
  | exc c r => exact absurd q coerceAll_noexc
  | ok ds ρ' =>
    rw [q, R.bind_ok] at p
    obtain ⟨G1, rp1, ge1, rd⟩ := coerceAll_ok rp hv q
    exact hf ds ρ' G1 rp1 ge1 rd (p.ge ge1)
theorem de_tup {es : List Expr} {δ : DA} {x1} {pos : Pos} (h : DAx X cv W es δ) : DEx X cv W (.Tuple es x1 pos) (dTup δ) := PE_imp (pe_tup h) fun σ H Q ⟨e, G, ρ, rp, p⟩ => by
  refine ⟨e, G, ρ, rp, Post.bind p fun xs ρ1 G1 H1 rp1 ge1 p1 vs hvs => ?_⟩
  refine post_coerceAll rp1 hvs p1 fun ds ρ2 G2 rp2 ge2 rd p2 => ?_
  by_cases hl : ds.length ≤ 64
  · rw [if_pos hl] at p2
    refine ⟨by rw [rd.length]; exact small64 hl, fun q hq => ?_⟩
    have ge3 := ge_lay (o := HO.tup vs) rp2 hq
    exact p2 _ _ (rp2.lay hq rfl) ge3 _ (.tup upd_same (rd.mono ge3.rd))
  · rw [if_neg hl] at p2; exact p2.elim
/-- a fresh object, held by nobody yet -/
theorem Rp.newOwn {K : PySem.W.Frag} {e : Ent} {G H : Hp} {σ : L2.St} {ρ : Rho} (rp : Rp K e G H σ ρ) {q : Addr} {o : HO} {c : OC} (hq : H q = none) (ho : OwnAt K G (upd H q o) q c) : Rp K e G (upd H q o) σ ρ ∧ VOk K e G (upd H q o) σ ρ (.ref q) (.ow c) := by
  refine ⟨rp.alloc hq, q, rfl, rp.freshG hq, rp.fresh0 hq, rp.freshP hq, ho, fun j dv h1 h2 => ?_⟩
  cases z : dv.oc? with
  | none => rfl
  | some c =>
    obtain ⟨u, hu, _⟩ := (rp.slot j _ dv h2 h1).tracked rfl (by rw [z]; simp)
    rw [hq] at hu; cases hu
theorem de_lst {es : List Expr} {δ : DA} {pos : Pos} (h : DAx X cv W es δ) : DEx X cv W (.List es pos) (dLst δ) := PE_imp (pe_lst h) fun σ H Q ⟨e, G, ρ, rp, p⟩ => by
  refine ⟨e, G, ρ, rp, Post.bind p fun xs ρ1 G1 H1 rp1 ge1 p1 vs hvs => ?_⟩
  refine post_coerceAll rp1 hvs p1 fun ds ρ2 G2 rp2 ge2 rd p2 => ?_
  by_cases hl : ds.length ≤ 64
  · rw [if_pos hl] at p2
    refine ⟨by rw [rd.length]; exact small64 hl, fun q hq => ?_⟩
    obtain ⟨rp3, hv⟩ := rp2.newOwn (o := .lst vs) (c := .lst ds) hq ⟨vs, upd_same, rd⟩
    exact p2 _ _ rp3 (GE.refl _) _ hv
  · rw [if_neg hl] at p2; exact p2.elim
end
end DL
end

section
set_option Elab.async false
set_option linter.all false
set_option maxRecDepth 100000
set_option maxHeartbeats 1000000
namespace DL
open PySem PySem.Spec PyProof.Rows L2
variable [Tbl]
/-! ### the data's operators -/
def lim : Nat := 16777216
def addP : PyData → PyData → Option DV
  | .int i, .int j => some (.sh (.int (i + j)))
  | .str x, .str y => if x.length + y.length ≤ 1000000 then some (.sh (.str (x ++ y))) else none
  | .list xs, .list ys => if xs.length + ys.length ≤ 1000000 then some (.ow (.lst (xs ++ ys))) else none
  | .tuple xs, .tuple ys => if xs.length + ys.length ≤ 1000000 then some (.sh (.tuple (xs ++ ys))) else none
  | _, _ => none
def subP : PyData → PyData → Option DV
  | .int i, .int j => some (.sh (.int (i - j)))
  | _, _ => none
def mulP : PyData → PyData → Option DV
  | .int i, .int j => if i.natAbs < 2 ^ 64 ∨ j.natAbs < 2 ^ 64 then some (.sh (.int (i * j))) else none
  | _, _ => none
def fdivP : PyData → PyData → Option DV
  | .int i, .int j => if j ≠ 0 ∧ j.natAbs < 1073741824 then some (.sh (.int (i.fdiv j))) else none
  | _, _ => none
def modP : PyData → PyData → Option DV
  | .int i, .int j => if j ≠ 0 then some (.sh (.int (i.fmod j))) else none
  | _, _ => none
def powP : PyData → PyData → Option DV
  | .int i, .int j => if 0 ≤ j ∧ j ≤ 1000 ∧ i.natAbs < 2 ^ 64 then some (.sh (.int (i ^ j.toNat))) else none
  | _, _ => none
def flatP : PyData → Bool
  | .none => true
  | .bool _ => true
  | .int _ => true
  | .str _ => true
  | _ => false
def scalP : PyData → PyData → Bool
  | .none, .none => true | .none, .int _ => true | .int _, .none => true | .none, .bool _ => true | .bool _, .none => true | .none, .str _ => true | .str _, .none => true
  | .int _, .int _ => true | .bool _, .bool _ => true | .str _, .str _ => true
  | .int _, .str _ => true | .str _, .int _ => true | .bool _, .str _ => true | .str _, .bool _ => true
  | _, _ => false
def eqP (a b : PyData) : Option DV := if (scalP a b || (SeqAt.shaped a && SeqAt.shaped b)) = true then some (.sh (.bool (PyData.eqv a b))) else none
def neP (a b : PyData) : Option DV := if (scalP a b || (SeqAt.shaped a && SeqAt.shaped b)) = true then some (.sh (.bool (!PyData.eqv a b))) else none
def ltP : PyData → PyData → Option DV
  | .int i, .int j => some (.sh (.bool (decide (i < j))))
  | _, _ => none
def leP : PyData → PyData → Option DV
  | .int i, .int j => some (.sh (.bool (decide (i ≤ j))))
  | _, _ => none
def gtP : PyData → PyData → Option DV
  | .int i, .int j => some (.sh (.bool (decide (j < i))))
  | _, _ => none
def geP : PyData → PyData → Option DV
  | .int i, .int j => some (.sh (.bool (decide (j ≤ i))))
  | _, _ => none
/-- x in ys -/
def inB : PyData → PyData → Option Bool
  | x, .list ys => if ((flatP x && ys.all flatP) || (SeqAt.shaped x && SeqAt.shaped (.list ys))) = true then some (ys.any fun z => PyData.eqv z x) else none
  | x, .tuple ys => if (flatP x && ys.all flatP) = true then some (ys.any fun z => PyData.eqv z x) else none
  | .str x, .str y => if x.cps.size = 1 then some (decide (x.cps.getD 0 0 ∈ y.cps.toList)) else none
  | _, _ => none
def inP (a b : PyData) : Option DV := (inB a b).map fun k => .sh (.bool k)
def notInP (a b : PyData) : Option DV := (inB a b).map fun k => .sh (.bool (!k))
def isNoneB : PyData → Bool
  | .none => true
  | _ => false
def isNoneP : PyData → PyData → Option DV
  | a, .none => some (.sh (.bool (isNoneB a)))
  | _, _ => none
def isNotNoneP : PyData → PyData → Option DV
  | a, .none => some (.sh (.bool (!isNoneB a)))
  | _, _ => none
def ixP : PyData → PyData → Option DV
  | .list xs, .int i => (atI xs i).map .sh
  | .tuple xs, .int i => (atI xs i).map .sh
  | .str z, .int i => if z.length ≤ 1000000 then (atI z.cps.toList i).map fun c => .sh (.str ⟨#[c]⟩) else none
  | _, _ => none
section
variable {K : PySem.W.Frag} {G H : Hp} {v : V}
theorem pk_int {i : Int} (h : Pk K G H v (.int i)) : v = .int i := by
  rcases h with h | ⟨a, c, _, _, z⟩
  · cases h; rfl
  · cases c <;> cases z
theorem pk_str {i : Str} (h : Pk K G H v (.str i)) : v = .str i := by
  rcases h with h | ⟨a, c, _, _, z⟩
  · cases h; rfl
  · cases c <;> cases z
theorem pk_non (h : Pk K G H v .none) : v = .non := by
  rcases h with h | ⟨a, c, _, _, z⟩
  · cases h; rfl
  · cases c <;> cases z
theorem pk_list {ds : List PyData} (g : GE G H) (h : Pk K G H v (.list ds)) : ∃ a xs, v = .ref a ∧ SqL K H a xs ∧ RDs K G xs ds := by
  rcases h with h | ⟨a, c, hv, o, z⟩
  · cases h with
    | lst h r => exact ⟨_, _, rfl, g.rd.sqL h, r⟩
  · cases c with
    | lst ds' =>
      cases z
      obtain ⟨xs, h1, r⟩ := o
      exact ⟨a, xs, hv, .inl (.inl h1), r⟩
    | dic t kvs => cases z
theorem pk_tup {ds : List PyData} (g : GE G H) (h : Pk K G H v (.tuple ds)) : ∃ a xs, v = .ref a ∧ SqT K H a xs ∧ G a = some (.tup xs) ∧ RDs K G xs ds := by
  rcases h with h | ⟨a, c, _, _, z⟩
  · cases h with
    | tup h r => exact ⟨_, _, rfl, .inl (.inl (g _ _ h)), h, r⟩
  · cases c <;> cases z
theorem pk_dp {d : PyData} (g : GE G H) (hd : d.canLay0 = true) (h : Pk K G H v d) : Dp K H v d := by
  rcases h with h | ⟨a, c, hv, o, z⟩
  · exact (h.mono g.rd).dp hd
  · cases c with
    | lst ds =>
      subst z
      obtain ⟨xs, h1, r⟩ := o
      rw [hv]
      exact .lst (.inl (.inl h1)) ((r.mono g.rd).dp (by simpa [OC.data, PyData.canLay0] using hd))
    | dic t kvs => subst z; simp [OC.data, PyData.canLay0] at hd
theorem pk_flat {d : PyData} (hd : flatP d = true) (h : Pk K G H v d) : RD K G v d := by
  rcases h with h | ⟨a, c, hv, o, z⟩
  · exact h
  · cases c <;> (subst z; cases hd)
theorem shaped_lay {d : PyData} (h : SeqAt.shaped d = true) : d.canLay0 = true := by
  unfold SeqAt.shaped at h
  simp only [Bool.and_eq_true] at h
  exact h.1
theorem flatV_of {d : PyData} (hd : flatP d = true) (h : RD K G v d) : flatV v = true := by
  cases h <;> first | rfl | (simp [flatP] at hd; done)
theorem flatVs_of : ∀ {vs : List V} {ds : List PyData}, ds.all flatP = true → RDs K G vs ds → vs.all flatV = true
  | _, _, _, .nil => rfl
  | _, _, hd, .cons r t => by
    simp only [List.all_cons, Bool.and_eq_true] at hd ⊢
    exact ⟨flatV_of hd.1 r, flatVs_of hd.2 t⟩
theorem eqV_of {u : V} {d b : PyData} (hd : flatP d = true) (hb : flatP b = true) (h : RD K G v d) (h' : RD K G u b) : eqV v u = PyData.eqv d b := by
  cases h <;> first | (simp [flatP] at hd; done) | (cases h' <;> first | (simp [flatP] at hb; done) | (simp [eqV, PyData.eqv]))
theorem inV_of {u : V} {b : PyData} (hb : flatP b = true) (h' : RD K G u b) : ∀ {vs : List V} {ds : List PyData}, ds.all flatP = true → RDs K G vs ds → inV u vs = ds.any fun z => PyData.eqv z b
  | _, _, _, .nil => rfl
  | _, _, hd, .cons r t => by
    simp only [List.all_cons, Bool.and_eq_true] at hd
    unfold inV
    simp only [List.any_cons]
    have z := inV_of hb h' hd.2 t
    unfold inV at z
    rw [z, eqV_of hd.1 hb r h']
theorem scal_of {u : V} {d b : PyData} (hs : scalP d b = true) (h : RD K G v d) (h' : RD K G u b) : scal v u = true ∧ decide (v = u) = PyData.eqv d b := by
  cases h <;> cases h' <;> first
    | (simp [scalP] at hs; done)
    | (refine ⟨rfl, ?_⟩; simp [PyData.eqv]; done)
    | (refine ⟨rfl, ?_⟩; rw [Bool.eq_iff_iff]; simp [PyData.eqv]; done)
theorem scalP_flat {d b : PyData} (hs : scalP d b = true) : flatP d = true ∧ flatP b = true := by
  cases d <;> cases b <;> first | exact ⟨rfl, rfl⟩ | cases hs
end
section
variable {X : Cx}
theorem lstR {pins : List (Addr × Obj)} {σ : L2.St} {H : Hp} {s : Shared} {a : Addr} {xs : List V} (I : Inv X pins σ H s) (h : Rd H a (.lst xs)) : ∃ (its : List Value) (n : Nat), Vals xs its ∧ xs.length ≤ sizeLine ∧ s.heap.get? a = some { cls := .type "list", data := .seq its.toArray n } := by
  obtain ⟨z, its, n, r, e⟩ := h.ok I.hok
  exact ⟨its, n, r, z, e⟩
/-- list + list, locked ones too -/
def rCatR (K : PySem.W.Frag) : R2 := fun x y H Q => ∃ l b xs zs, x = .ref l ∧ y = .ref b ∧ SqL K H l xs ∧ SqL K H b zs ∧ xs.length + zs.length ≤ sizeLine ∧ ∀ p, H p = none → Q (.ref p) (upd H p (.lst (xs ++ zs)))
theorem op_catR : OpR X (binaryOp .Add) (rCatR X.K) := by
  intro pins s σ H x y v u Q I rx ry h
  obtain ⟨l, b, xs, zs, rfl, rfl, hH, hB, hz, q⟩ := h
  cases rx
  cases ry
  obtain ⟨its, r, ⟨⟨c1, d1, dt1, sl1⟩, n, ho, hc, hd, hdt⟩, hl⟩ := I.list hH
  obtain ⟨its2, r2, ⟨⟨c2, d2, dt2, sl2⟩, n2, ho2, hc2, hd2, hdt2⟩, hl2⟩ := I.list hB
  dsimp only at hc hd hdt hc2 hd2 hdt2
  subst hc hdt hc2 hdt2
  have h1 := r.length
  have h2 := r2.length
  refine concat_meets ⟨_, ho, rfl⟩ ⟨_, ho2, rfl⟩ noFill_list_add seq_list_add PySem.F.slot_list_add PySem.F.entry_list_add (PySem.F.args_list_add_2 _ _) (list_addW l b its.toArray its2.toArray n n2 d1 d2 sl1 sl2 (by rw [List.size_toArray, List.size_toArray]; omega)) ⟨ho, ho2, ?_⟩
  have ea : its.toArray ++ its2.toArray = (its ++ its2).toArray := by simp
  rw [ea]
  exact ⟨.ref _, _, I.lnew (t' := s.toks) (r.append r2) (by rw [List.length_append]; omega), rfl, q _ I.fresh⟩
theorem OpD.or {f : Value → Value → Sem Value} {g g' : PyData → PyData → Option DV} (h : OpD X f g) (h' : OpD X f g') (g'' : PyData → PyData → Option DV) (hg : ∀ a b c, g'' a b = some c → g a b = some c ∨ g' a b = some c) : OpD X f g'' := by
  obtain ⟨r, hr, q⟩ := h
  obtain ⟨r', hr', q'⟩ := h'
  refine ⟨_, hr.or hr', fun e G H σ ρ x y a b c Q rp pa pb e1 k => ?_⟩
  rcases hg a b c e1 with z | z
  · exact .inl (q e G H σ ρ x y a b c Q rp pa pb z k)
  · exact .inr (q' e G H σ ρ x y a b c Q rp pa pb z k)
theorem opd_ii {f : Value → Value → Sem Value} {C : Int → Int → Prop} {g : Int → Int → PyData} {gv : Int → Int → V} (ho : OpR X f (rI C gv)) (hgv : ∀ i j G, RD X.K G (gv i j) (g i j)) (p : PyData → PyData → Option DV)
    (hp : ∀ a b c, p a b = some c → ∃ i j, a = .int i ∧ b = .int j ∧ C i j ∧ c = .sh (g i j)) : OpD X f p := ⟨_, ho, fun e G H σ ρ x y a b c Q rp pa pb e1 k => by
  obtain ⟨i, j, rfl, rfl, hc, rfl⟩ := hp a b c e1
  exact ⟨i, j, pk_int pa, pk_int pb, hc, k _ H G rp (GE.refl G) (hgv i j G)⟩⟩
theorem opd_ii0 {f : Value → Value → Sem Value} {g : Int → Int → PyData} {gv : Int → Int → V} (ho : OpR X f (rI0 gv)) (hgv : ∀ i j G, RD X.K G (gv i j) (g i j)) (p : PyData → PyData → Option DV)
    (hp : ∀ a b c, p a b = some c → ∃ i j, a = .int i ∧ b = .int j ∧ c = .sh (g i j)) : OpD X f p := ⟨_, ho, fun e G H σ ρ x y a b c Q rp pa pb e1 k => by
  obtain ⟨i, j, rfl, rfl, rfl⟩ := hp a b c e1
  exact ⟨i, j, pk_int pa, pk_int pb, k _ H G rp (GE.refl G) (hgv i j G)⟩⟩
theorem od_sub : OpD X (binaryOp .Sub) subP := opd_ii0 op_sub (fun _ _ _ => .int _) _ fun a b c h => by
  unfold subP at h
  split at h <;> first | (cases h; exact ⟨_, _, rfl, rfl, rfl⟩) | cases h
theorem abs64 {i : Int} (h : i.natAbs < 2 ^ 64) : -(2 ^ 64) < i ∧ i < 2 ^ 64 := by omega
theorem od_mul : OpD X (binaryOp .Mult) mulP := opd_ii op_mul (fun _ _ _ => .int _) _ fun a b c h => by
  unfold mulP at h
  split at h
  · split at h
    · rename_i q
      cases h
      exact ⟨_, _, rfl, rfl, q.imp abs64 abs64, rfl⟩
    · cases h
  · cases h
theorem od_fdiv : OpD X (binaryOp .FloorDiv) fdivP := opd_ii op_fdivN (fun _ _ _ => .int _) _ fun a b c h => by
  unfold fdivP at h
  split at h
  · split at h
    · rename_i q
      cases h
      exact ⟨_, _, rfl, rfl, q, rfl⟩
    · cases h
  · cases h
theorem od_mod : OpD X (binaryOp .Mod) modP := opd_ii op_modN (fun _ _ _ => .int _) _ fun a b c h => by
  unfold modP at h
  split at h
  · split at h
    · rename_i q
      cases h
      exact ⟨_, _, rfl, rfl, q, rfl⟩
    · cases h
  · cases h
theorem od_pow : OpD X (binaryOp .Pow) powP := opd_ii op_pow (fun _ _ _ => .int _) _ fun a b c h => by
  unfold powP at h
  split at h
  · split at h
    · rename_i q
      cases h
      exact ⟨_, _, rfl, rfl, ⟨q.1, by omega, q.2.2⟩, rfl⟩
    · cases h
  · cases h
theorem od_lt : OpD X (compareOp .Lt) ltP := opd_ii0 op_lt (fun _ _ _ => .bl _) _ fun a b c h => by
  unfold ltP at h
  split at h <;> first | (cases h; exact ⟨_, _, rfl, rfl, rfl⟩) | cases h
theorem od_le : OpD X (compareOp .LtE) leP := opd_ii0 op_le (fun _ _ _ => .bl _) _ fun a b c h => by
  unfold leP at h
  split at h <;> first | (cases h; exact ⟨_, _, rfl, rfl, rfl⟩) | cases h
theorem od_gt : OpD X (compareOp .Gt) gtP := opd_ii0 op_gt (fun _ _ _ => .bl _) _ fun a b c h => by
  unfold gtP at h
  split at h <;> first | (cases h; exact ⟨_, _, rfl, rfl, rfl⟩) | cases h
theorem od_ge : OpD X (compareOp .GtE) geP := opd_ii0 op_ge (fun _ _ _ => .bl _) _ fun a b c h => by
  unfold geP at h
  split at h <;> first | (cases h; exact ⟨_, _, rfl, rfl, rfl⟩) | cases h
theorem lim_line {n : Nat} (h : n ≤ 1000000) : n ≤ sizeLine := by rw [sizeLine_eq]; omega
theorem od_addI : OpD X (binaryOp .Add) (fun a b => match a, b with
    | .int i, .int j => some (.sh (.int (i + j)))
    | _, _ => none) := opd_ii0 op_add (fun _ _ _ => .int _) _ fun a b c h => by
  split at h <;> first | (cases h; exact ⟨_, _, rfl, rfl, rfl⟩) | cases h
theorem od_addS : OpD X (binaryOp .Add) (fun a b => match a, b with
    | .str x, .str y => if x.length + y.length ≤ 1000000 then some (.sh (.str (x ++ y))) else none
    | _, _ => none) := ⟨_, op_add_str, fun e G H σ ρ x y a b c Q rp pa pb e1 k => by
  dsimp only at e1
  split at e1
  · split at e1
    · rename_i q
      cases e1
      exact ⟨_, _, pk_str pa, pk_str pb, lim_line q, k _ H G rp (GE.refl G) (.str _)⟩
    · cases e1
  · cases e1⟩
theorem od_addL : OpD X (binaryOp .Add) (fun a b => match a, b with
    | .list xs, .list ys => if xs.length + ys.length ≤ 1000000 then some (.ow (.lst (xs ++ ys))) else none
    | _, _ => none) := ⟨_, op_catR, fun e G H σ ρ x y a b c Q rp pa pb e1 k => by
  dsimp only at e1
  split at e1
  · split at e1
    · rename_i q
      cases e1
      obtain ⟨l, xs, rfl, h1, r1⟩ := pk_list rp.le pa
      obtain ⟨l2, ys, rfl, h2, r2⟩ := pk_list rp.le pb
      refine ⟨l, l2, xs, ys, rfl, rfl, h1, h2, by rw [r1.length, r2.length]; exact lim_line q, fun p hp => ?_⟩
      obtain ⟨rp3, hv⟩ := rp.newOwn (o := .lst (xs ++ ys)) (c := .lst _) hp ⟨_, upd_same, r1.append r2⟩
      exact k _ _ G rp3 (GE.refl G) hv
    · cases e1
  · cases e1⟩
theorem od_addT : OpD X (binaryOp .Add) (fun a b => match a, b with
    | .tuple xs, .tuple ys => if xs.length + ys.length ≤ 1000000 then some (.sh (.tuple (xs ++ ys))) else none
    | _, _ => none) := ⟨_, op_catA, fun e G H σ ρ x y a b c Q rp pa pb e1 k => by
  dsimp only at e1
  split at e1
  · split at e1
    · rename_i q
      cases e1
      obtain ⟨l, xs, rfl, h1, g1, r1⟩ := pk_tup rp.le pa
      obtain ⟨l2, ys, rfl, h2, g2, r2⟩ := pk_tup rp.le pb
      refine ⟨l, l2, xs, ys, rfl, rfl, h1, h2, by rw [r1.length, r2.length]; exact lim_line q, fun z => ?_, fun z1 z2 => ?_, fun z1 z2 p hp => ?_⟩
      · have z' := r1.nil_iff.mp z
        subst z'
        exact k _ H G rp (GE.refl G) (.tup g2 r2)
      · have z' := r2.nil_iff.mp z2
        subst z'
        exact k _ H G rp (GE.refl G) (by rw [List.append_nil]; exact .tup g1 r1)
      · have ge3 := ge_lay (o := HO.tup (xs ++ ys)) rp hp
        exact k _ _ _ (rp.lay hp rfl) ge3 (.tup upd_same ((r1.append r2).mono ge3.rd))
    · cases e1
  · cases e1⟩
theorem od_add : OpD X (binaryOp .Add) addP := by
  refine OpD.or od_addI (OpD.or od_addS (OpD.or od_addL od_addT (fun a b => match a, b with
    | .list xs, .list ys => if xs.length + ys.length ≤ 1000000 then some (.ow (.lst (xs ++ ys))) else none
    | .tuple xs, .tuple ys => if xs.length + ys.length ≤ 1000000 then some (.sh (.tuple (xs ++ ys))) else none
    | _, _ => none) ?_) (fun a b => match a, b with
    | .str x, .str y => if x.length + y.length ≤ 1000000 then some (.sh (.str (x ++ y))) else none
    | .list xs, .list ys => if xs.length + ys.length ≤ 1000000 then some (.ow (.lst (xs ++ ys))) else none
    | .tuple xs, .tuple ys => if xs.length + ys.length ≤ 1000000 then some (.sh (.tuple (xs ++ ys))) else none
    | _, _ => none) ?_) addP ?_
  · intro a b c h
    split at h <;> first | exact .inl h | exact .inr h | cases h
  · intro a b c h
    split at h <;> first | exact .inl h | exact .inr h | cases h
  · intro a b c h
    unfold addP at h
    split at h <;> first | exact .inl h | exact .inr h | cases h
theorem od_eq (hu : X.A.units + 64 < cLine) : OpD X (compareOp .Eq) eqP := ⟨_, op_eq.or (op_eqD hu), fun e G H σ ρ x y a b c Q rp pa pb e1 k => by
  unfold eqP at e1
  split at e1
  · rename_i q
    cases e1
    simp only [Bool.or_eq_true] at q
    rcases q with q | q
    · obtain ⟨f1, f2⟩ := scalP_flat q
      obtain ⟨s1, s2⟩ := scal_of q (pk_flat f1 pa) (pk_flat f2 pb)
      exact .inl ⟨s1, by rw [s2]; exact k _ H G rp (GE.refl G) (.bl _)⟩
    · simp only [Bool.and_eq_true] at q
      exact .inr ⟨a, b, pk_dp rp.le (shaped_lay q.1) pa, pk_dp rp.le (shaped_lay q.2) pb, q.1, q.2, k _ H G rp (GE.refl G) (.bl _)⟩
  · cases e1⟩
theorem od_ne (hu : X.A.units + 64 < cLine) : OpD X (compareOp .NotEq) neP := ⟨_, op_ne.or (op_neD hu), fun e G H σ ρ x y a b c Q rp pa pb e1 k => by
  unfold neP at e1
  split at e1
  · rename_i q
    cases e1
    simp only [Bool.or_eq_true] at q
    rcases q with q | q
    · obtain ⟨f1, f2⟩ := scalP_flat q
      obtain ⟨s1, s2⟩ := scal_of q (pk_flat f1 pa) (pk_flat f2 pb)
      exact .inl ⟨s1, by rw [s2]; exact k _ H G rp (GE.refl G) (.bl _)⟩
    · simp only [Bool.and_eq_true] at q
      exact .inr ⟨a, b, pk_dp rp.le (shaped_lay q.1) pa, pk_dp rp.le (shaped_lay q.2) pb, q.1, q.2, k _ H G rp (GE.refl G) (.bl _)⟩
  · cases e1⟩
theorem one_sign {x : Str} (h : x.cps.size = 1) : x = ⟨#[x.cps.getD 0 0]⟩ := by
  obtain ⟨⟨l⟩⟩ := x
  match l, h with
  | [c], _ => rfl
theorem inB_cases {a b : PyData} {k : Bool} (h : inB a b = some k) :
    (∃ ys, b = .list ys ∧ ((flatP a && ys.all flatP) || (SeqAt.shaped a && SeqAt.shaped (.list ys))) = true ∧ k = ys.any fun z => PyData.eqv z a) ∨
    (∃ ys, b = .tuple ys ∧ (flatP a && ys.all flatP) = true ∧ k = ys.any fun z => PyData.eqv z a) ∨
    ∃ c y, a = .str ⟨#[c]⟩ ∧ b = .str y ∧ k = decide (c ∈ y.cps.toList) := by
  unfold inB at h
  split at h
  · split at h
    · rename_i q; cases h; exact .inl ⟨_, rfl, q, rfl⟩
    · cases h
  · split at h
    · rename_i q; cases h; exact .inr (.inl ⟨_, rfl, q, rfl⟩)
    · cases h
  · split at h
    · rename_i q; cases h; exact .inr (.inr ⟨_, _, by rw [← one_sign q], rfl, rfl⟩)
    · cases h
  · cases h
theorem od_in (hu : X.A.units + 65 < cLine) : OpD X (compareOp .In) inP := ⟨_, op_in_seq.or ((op_inD hu).or op_in_sign), fun e G H σ ρ x y a b c Q rp pa pb e1 kk => by
  unfold inP at e1
  cases q0 : inB a b with
  | none => rw [q0] at e1; cases e1
  | some k =>
    rw [q0] at e1; cases e1
    rcases inB_cases q0 with ⟨ys, rfl, q, rfl⟩ | ⟨ys, rfl, q, rfl⟩ | ⟨c, z, rfl, rfl, rfl⟩
    · obtain ⟨l, xs, rfl, h1, r1⟩ := pk_list rp.le pb
      simp only [Bool.or_eq_true, Bool.and_eq_true] at q
      rcases q with ⟨q1, q2⟩ | ⟨q1, q2⟩
      · have pa' := pk_flat q1 pa
        refine .inl ⟨l, xs, rfl, .inl h1, flatV_of q1 pa', flatVs_of q2 r1, ?_⟩
        rw [if_neg Bool.false_ne_true, inV_of q1 pa' q2 r1]
        exact kk _ H G rp (GE.refl G) (.bl _)
      · exact .inr (.inl ⟨a, ys, pk_dp rp.le (shaped_lay q1) pa, pk_dp rp.le (shaped_lay q2) pb, q1, q2, kk _ H G rp (GE.refl G) (.bl _)⟩)
    · obtain ⟨l, xs, rfl, h1, _, r1⟩ := pk_tup rp.le pb
      simp only [Bool.and_eq_true] at q
      have pa' := pk_flat q.1 pa
      refine .inl ⟨l, xs, rfl, .inr h1, flatV_of q.1 pa', flatVs_of q.2 r1, ?_⟩
      rw [if_neg Bool.false_ne_true, inV_of q.1 pa' q.2 r1]
      exact kk _ H G rp (GE.refl G) (.bl _)
    · exact .inr (.inr ⟨c, z, pk_str pa, pk_str pb, kk _ H G rp (GE.refl G) (.bl _)⟩)⟩
theorem od_notIn (hu : X.A.units + 65 < cLine) : OpD X (compareOp .NotIn) notInP := ⟨_, op_notIn_seq.or ((op_notInD hu).or op_notIn_sign), fun e G H σ ρ x y a b c Q rp pa pb e1 kk => by
  unfold notInP at e1
  cases q0 : inB a b with
  | none => rw [q0] at e1; cases e1
  | some k =>
    rw [q0] at e1; cases e1
    rcases inB_cases q0 with ⟨ys, rfl, q, rfl⟩ | ⟨ys, rfl, q, rfl⟩ | ⟨c, z, rfl, rfl, rfl⟩
    · obtain ⟨l, xs, rfl, h1, r1⟩ := pk_list rp.le pb
      simp only [Bool.or_eq_true, Bool.and_eq_true] at q
      rcases q with ⟨q1, q2⟩ | ⟨q1, q2⟩
      · have pa' := pk_flat q1 pa
        refine .inl ⟨l, xs, rfl, .inl h1, flatV_of q1 pa', flatVs_of q2 r1, ?_⟩
        rw [if_pos rfl, inV_of q1 pa' q2 r1]
        exact kk _ H G rp (GE.refl G) (.bl _)
      · exact .inr (.inl ⟨a, ys, pk_dp rp.le (shaped_lay q1) pa, pk_dp rp.le (shaped_lay q2) pb, q1, q2, kk _ H G rp (GE.refl G) (.bl _)⟩)
    · obtain ⟨l, xs, rfl, h1, _, r1⟩ := pk_tup rp.le pb
      simp only [Bool.and_eq_true] at q
      have pa' := pk_flat q.1 pa
      refine .inl ⟨l, xs, rfl, .inr h1, flatV_of q.1 pa', flatVs_of q.2 r1, ?_⟩
      rw [if_pos rfl, inV_of q.1 pa' q.2 r1]
      exact kk _ H G rp (GE.refl G) (.bl _)
    · exact .inr (.inr ⟨c, z, pk_str pa, pk_str pb, kk _ H G rp (GE.refl G) (.bl _)⟩)⟩
theorem dec_non {K : PySem.W.Frag} {G H : Hp} {v : V} {a : PyData} (h : Pk K G H v a) : decide (v = .non) = isNoneB a := by
  rcases h with h | ⟨p, c, rfl, _, rfl⟩
  · cases h <;> simp [isNoneB]
  · cases c <;> simp [OC.data, isNoneB]
theorem od_isN : OpD X (compareOp .Is) isNoneP := ⟨_, op_isN, fun e G H σ ρ x y a b c Q rp pa pb e1 k => by
  unfold isNoneP at e1
  split at e1
  · cases e1
    refine ⟨pk_non pb, ?_⟩
    rw [dec_non pa]
    exact k _ H G rp (GE.refl G) (.bl _)
  · cases e1⟩
theorem od_notN : OpD X (compareOp .IsNot) isNotNoneP := ⟨_, op_notN, fun e G H σ ρ x y a b c Q rp pa pb e1 k => by
  unfold isNotNoneP at e1
  split at e1
  · cases e1
    refine ⟨pk_non pb, ?_⟩
    rw [dec_non pa]
    exact k _ H G rp (GE.refl G) (.bl _)
  · cases e1⟩
end
section
variable {X : Cx} {cv : Str → Value} {W : WX}
/-- a comparison as a test -/
theorem dt_cmp {f : CmpOp} {a b : Expr} {δa δb : DE} {g : PyData → PyData → Option DV} {pos : Pos} (ho : OpD X (compareOp f) g) (ha : DEx X cv W a δa) (hb : DEx X cv W b δb) (hm : behindInMarks f b = false := by first | rfl | exact nomark _) : DTx X cv W (.Compare a [f] [b] pos) (dTest (dBin g δa δb)) := by
  obtain ⟨r, hr, hg⟩ := ho
  refine PT_imp (pt_cmpR hr ha hb hm) fun σ H Q ⟨e, G, ρ, rp, p⟩ => ?_
  have p' : Post X.K cv W e G σ ((δa ρ).bind fun x ρ1 => (δb ρ1).bind fun y ρ2 => (match peek ρ2 (keep x), peek ρ2 y with
    | some a, some b => ofO (g a b) ρ2
    | _, _ => .bad).bind fun z ρ3 => match peek ρ3 z with
      | some (.bool b) => R.ok b ρ3
      | _ => .bad) fun b ρ' G' H' => Q b H' := by
    have q : dTest (dBin g δa δb) ρ = ((δa ρ).bind fun x ρ1 => (δb ρ1).bind fun y ρ2 => (match peek ρ2 (keep x), peek ρ2 y with
      | some a, some b => ofO (g a b) ρ2
      | _, _ => .bad).bind fun z ρ3 => match peek ρ3 z with
        | some (.bool b) => R.ok b ρ3
        | _ => .bad) := by
      unfold dTest dBin
      cases h1 : δa ρ with
      | ok x ρ1 => simp only [R.bind_ok]; cases δb ρ1 <;> rfl
      | _ => rfl
    rw [← q]; exact p
  refine tD_two (R := fun x y H2 => r x y H2 fun z H3 => ∃ k, z = .bl k ∧ Q k H3) (f := fun x y ρ2 => (match peek ρ2 x, peek ρ2 y with
    | some a, some b => ofO (g a b) ρ2
    | _, _ => .bad).bind fun z ρ3 => match peek ρ3 z with
      | some (.bool b) => R.ok b ρ3
      | _ => .bad) rp p' fun v u x y H2 G2 ρ2 rp2 ge2 hx hy p2 => ?_
  split at p2
  · rename_i a b q1 q2
    cases q3 : g a b with
    | none => rw [q3] at p2; exact p2.elim
    | some c =>
      rw [q3, ofO_some, R.bind_ok] at p2
      refine hg e G2 H2 σ ρ2 v u a b c _ rp2 (peek_ok rp2 hx q1) (peek_ok rp2 hy q2) q3 fun v' H' G' rp' ge' hv' => ?_
      split at p2
      · rename_i k q
        exact ⟨k, bl_of (peek_ok rp' hv' q), p2 H' G' rp' ge'⟩
      · exact p2.elim
  · exact p2.elim
end
end DL
end

section
set_option Elab.async false
set_option linter.all false
set_option maxRecDepth 100000
set_option maxHeartbeats 1000000
namespace DL
open PySem PySem.Spec PyProof.Rows L2
variable [Tbl]
/-! ### statements -/
inductive SO where
  | nx | rt (dv : DV) | bk | ct
abbrev DS := Rho → R SO
def dNext : DS := fun ρ => .ok .nx ρ
def dSeq (a b : DS) : DS := fun ρ => (a ρ).bind fun o ρ1 => match o with
  | .nx => b ρ1
  | o => .ok o ρ1
def dIfS (c : DB) (a b : DS) : DS := fun ρ => (c ρ).bind fun t ρ1 => if t = true then a ρ1 else b ρ1
def dExpr (δ : DE) : DS := fun ρ => (δ ρ).bind fun _ ρ1 => .ok .nx ρ1
/-- what a def gives back: a slot's own object is given away -/
def dRet (δ : DE) : DS := fun ρ => (δ ρ).bind fun x ρ1 => match x with
  | .sh d => .ok (.rt (.sh d)) ρ1
  | .ow c => .ok (.rt (.ow c)) ρ1
  | .bw i => match ρ1[i]? with
    | some (some (.sh d)) => .ok (.rt (.sh d)) ρ1
    | some (some (.ow c)) => .ok (.rt (.ow c)) (ρ1.set i none)
    | _ => .bad
  | _ => .bad
/-- a slot gets a value; a fresh object becomes the slot's own -/
def putV (i : Nat) (x : DV) (ρ : Rho) : R SO := if i < ρ.length then (match x with
  | .sh d => .ok .nx (ρ.set i (some (.sh d)))
  | .ow c => .ok .nx (ρ.set i (some (.ow c)))
  | .op a => .ok .nx (ρ.set i (some (.op a)))
  | .bw j => match coerce (.bw j) ρ with
    | .ok d ρ1 => .ok .nx (ρ1.set i (some (.sh d)))
    | _ => .bad
  | .mu _ => .bad) else .bad
def dSet (i : Nat) (δ : DE) : DS := fun ρ => (δ ρ).bind fun x ρ1 => putV i x ρ1
def PostS (K : PySem.W.Frag) (cv : Str → Value) (W : WX) (e : Ent) (G : Hp) (r : R SO) (D : Ends) : Prop := match r with
  | .bad => False
  | .exc c ρ' => ∀ σ' H' G', Rp K e G' H' σ' ρ' → GE G G' → W (cv c) none σ' H'
  | .ok .nx ρ' => ∀ σ' H' G', Rp K e G' H' σ' ρ' → GE G G' → D.nx σ' H'
  | .ok .bk ρ' => ∀ σ' H' G', Rp K e G' H' σ' ρ' → GE G G' → D.bk σ' H'
  | .ok .ct ρ' => ∀ σ' H' G', Rp K e G' H' σ' ρ' → GE G G' → D.ct σ' H'
  | .ok (.rt dv) ρ' => ∀ v σ' H' G', Rp K e G' H' σ' ρ' → GE G G' → VOk K e G' H' σ' ρ' v dv → D.rt v H'
theorem PostS.ge {K : PySem.W.Frag} {cv : Str → Value} {W : WX} {e : Ent} {G G1 : Hp} {r : R SO} {D : Ends} (h : PostS K cv W e G r D) (g : GE G G1) : PostS K cv W e G1 r D := by
  cases r with
  | bad => exact h
  | exc c ρ' => exact fun σ' H' G' rp ge => h σ' H' G' rp (g.trans ge)
  | ok o ρ' =>
    cases o with
    | nx => exact fun σ' H' G' rp ge => h σ' H' G' rp (g.trans ge)
    | bk => exact fun σ' H' G' rp ge => h σ' H' G' rp (g.trans ge)
    | ct => exact fun σ' H' G' rp ge => h σ' H' G' rp (g.trans ge)
    | rt dv => exact fun v σ' H' G' rp ge => h v σ' H' G' rp (g.trans ge)
def tS (K : PySem.W.Frag) (cv : Str → Value) (W : WX) (δ : DS) : TS := fun D σ H => ∃ e G ρ, Rp K e G H σ ρ ∧ PostS K cv W e G (δ ρ) D
section
variable {X : Cx} {cv : Str → Value} {W : WX}
abbrev DSx (X : Cx) (cv : Str → Value) (W : WX) (s : Stmt) (δ : DS) : Prop := PS X s (tS X.K cv W δ)
abbrev DSs (X : Cx) (cv : Str → Value) (W : WX) (s : List Stmt) (δ : DS) : Prop := PSs X s (tS X.K cv W δ)
theorem PostS.seq {K : PySem.W.Frag} {e : Ent} {G : Hp} {a b : DS} {D : Ends} {ρ : Rho} (p : PostS K cv W e G (dSeq a b ρ) D) : PostS K cv W e G (a ρ) { D with nx := tS K cv W b D } := by
  unfold dSeq at p
  cases q : a ρ with
  | bad => rw [q] at p; exact p
  | exc c ρ' => rw [q] at p; exact p
  | ok o ρ' =>
    rw [q, R.bind_ok] at p
    cases o with
    | nx => exact fun σ' H' G' rp ge => ⟨e, G', ρ', rp, p.ge ge⟩
    | bk => exact p
    | ct => exact p
    | rt dv => exact p
theorem ds_nil : DSs X cv W [] dNext := PSs_imp pss_nil fun D σ H ⟨e, G, ρ, rp, p⟩ => p σ H G rp (GE.refl G)
theorem ds_cons {s : Stmt} {r : List Stmt} {a b : DS} (h1 : DSx X cv W s a) (h2 : DSs X cv W r b) : DSs X cv W (s :: r) (dSeq a b) := PSs_imp (pss_cons h1 h2) fun D σ H ⟨e, G, ρ, rp, p⟩ => ⟨e, G, ρ, rp, p.seq⟩
theorem ds_one {s : Stmt} {a : DS} (h1 : DSx X cv W s a) : DSs X cv W [s] a := pss_one h1
theorem ds_pass {pos : Pos} : DSx X cv W (.Pass pos) dNext := PS_imp ps_pass fun D σ H ⟨e, G, ρ, rp, p⟩ => p σ H G rp (GE.refl G)
/-- an expression first, then by its value -/
theorem tD_post {K : PySem.W.Frag} {δ : DE} {σ : L2.St} {H : Hp} {Q : VK} {e : Ent} {G : Hp} {ρ : Rho} {f : DV → Rho → R SO} {D : Ends} (rp : Rp K e G H σ ρ) (p : PostS K cv W e G ((δ ρ).bind f) D)
    (hf : ∀ x ρ1 v H1 G1, Rp K e G1 H1 σ ρ1 → GE G G1 → VOk K e G1 H1 σ ρ1 v x → PostS K cv W e G1 (f x ρ1) D → Q v H1) : tD K cv W δ σ H Q := by
  refine ⟨e, G, ρ, rp, ?_⟩
  cases q : δ ρ with
  | bad => rw [q] at p; exact p
  | exc c ρ' => rw [q] at p; exact fun H' G' rp' ge' => p σ H' G' rp' ge'
  | ok x ρ1 => rw [q, R.bind_ok] at p; exact fun H1 G1 rp1 ge1 v hv => hf x ρ1 v H1 G1 rp1 ge1 hv (p.ge ge1)
theorem tB_post {K : PySem.W.Frag} {δ : DB} {σ : L2.St} {H : Hp} {Q : Bool → Hp → Prop} {e : Ent} {G : Hp} {ρ : Rho} {f : Bool → Rho → R SO} {D : Ends} (rp : Rp K e G H σ ρ) (p : PostS K cv W e G ((δ ρ).bind f) D)
    (hf : ∀ x ρ1 H1 G1, Rp K e G1 H1 σ ρ1 → GE G G1 → PostS K cv W e G1 (f x ρ1) D → Q x H1) : tB K cv W δ σ H Q := by
  refine ⟨e, G, ρ, rp, ?_⟩
  cases q : δ ρ with
  | bad => rw [q] at p; exact p
  | exc c ρ' => rw [q] at p; exact fun H' G' rp' ge' => p σ H' G' rp' ge'
  | ok x ρ1 => rw [q, R.bind_ok] at p; exact fun H1 G1 rp1 ge1 => hf x ρ1 H1 G1 rp1 ge1 (p.ge ge1)
theorem ds_if {c : Expr} {a b : List Stmt} {γ : DB} {α β : DS} {pos : Pos} (hc : DTx X cv W c γ) (ha : DSs X cv W a α) (hb : DSs X cv W b β) : DSx X cv W (.If c a b pos) (dIfS γ α β) := PS_imp (ps_if hc ha hb) fun D σ H ⟨e, G, ρ, rp, p⟩ =>
  tB_post rp p fun t ρ1 H1 G1 rp1 _ p1 => by
    cases t with
    | true => rw [if_pos rfl]; exact ⟨e, G1, ρ1, rp1, p1⟩
    | false => rw [if_neg Bool.false_ne_true]; exact ⟨e, G1, ρ1, rp1, p1⟩
theorem ds_expr {a : Expr} {δ : DE} {pos : Pos} (ha : DEx X cv W a δ) (hs : swapsWith a none pos.line X.env = pure false := by rfl) : DSx X cv W (.Expr a pos) (dExpr δ) := PS_imp (ps_expr ha hs) fun D σ H ⟨e, G, ρ, rp, p⟩ =>
  tD_post rp p fun x ρ1 v H1 G1 rp1 _ _ p1 => p1 σ H1 G1 rp1 (GE.refl G1)
theorem Rp.unset {K : PySem.W.Frag} {e : Ent} {G H : Hp} {σ : L2.St} {ρ : Rho} (rp : Rp K e G H σ ρ) (i : Nat) : Rp K e G H σ (ρ.set i none) := rp.forget (by rw [List.length_set]; exact rp.len) fun j dv h => by
  by_cases hj : j = i
  · subst hj
    by_cases hl : j < ρ.length
    · rw [List.getElem?_set_self hl] at h; cases h
    · rw [List.getElem?_eq_none (by rw [List.length_set]; omega)] at h; cases h
  · rw [List.getElem?_set_ne (Ne.symm hj)] at h
    exact ⟨h, rfl⟩
theorem ds_ret {a : Expr} {δ : DE} {pos : Pos} (ha : DEx X cv W a δ) : DSx X cv W (.Return (some a) pos) (dRet δ) := PS_imp (ps_ret ha) fun D σ H ⟨e, G, ρ, rp, p⟩ =>
  tD_post rp p fun x ρ1 v H1 G1 rp1 _ hv p1 => by
    cases x with
    | sh d => exact p1 v σ H1 G1 rp1 (GE.refl G1) hv
    | ow c => exact p1 v σ H1 G1 rp1 (GE.refl G1) hv
    | mu c => exact p1.elim
    | op a => exact p1.elim
    | bw i =>
      have hv : σ[i]? = some (some v) := hv
      have p1 : PostS X.K cv W e G1 (match ρ1[i]? with
        | some (some (.sh d)) => R.ok (.rt (.sh d)) ρ1
        | some (some (.ow c)) => .ok (.rt (.ow c)) (ρ1.set i none)
        | _ => .bad) D := p1
      split at p1
      · rename_i d q
        exact p1 v σ H1 G1 rp1 (GE.refl G1) (rp1.slot i v _ hv q)
      · rename_i c q
        obtain ⟨a, rfl, h1, h2, h3, h4⟩ := rp1.slot i v _ hv q
        refine p1 _ σ H1 G1 (rp1.unset i) (GE.refl G1) ⟨a, rfl, h1, h2, h3, h4, fun j dv hj hs => ?_⟩
        by_cases hji : j = i
        · subst hji
          rw [List.getElem?_set_self (rp1.len' hs)] at hj; cases hj
        · rw [List.getElem?_set_ne (Ne.symm hji)] at hj
          rcases rp1.apart j i _ dv _ hji hs hv hj q with z | z
          · exact z
          · exact absurd z (by simp [DV.oc?])
      · exact p1.elim
theorem ds_retN {pos : Pos} : DSx X cv W (.Return none pos) (fun ρ => .ok (.rt (.sh .none)) ρ) := PS_imp ps_retN fun D σ H ⟨e, G, ρ, rp, p⟩ => p .non σ H G rp (GE.refl G) .non
theorem putV_ok {K : PySem.W.Frag} {e : Ent} {G H : Hp} {σ : L2.St} {ρ : Rho} {i : Nat} {x : DV} {v : V} {D : Ends} {C : Prop} (rp : Rp K e G H σ ρ) (hv : VOk K e G H σ ρ v x) (p : PostS K cv W e G (putV i x ρ) D)
    (h : ∀ G1 ρ1, Rp K e G1 H (σ.set i (some v)) ρ1 → GE G G1 → D.nx (σ.set i (some v)) H → C) : C := by
  unfold putV at p
  split at p
  · rename_i hi
    cases x with
    | sh d => exact h G _ (rp.store hi hv (fun _ => nofun)) (GE.refl G) (p _ H G (rp.store hi hv (fun _ => nofun)) (GE.refl G))
    | ow c => exact h G _ (rp.store hi hv (fun _ => nofun)) (GE.refl G) (p _ H G (rp.store hi hv (fun _ => nofun)) (GE.refl G))
    | op a => exact h G _ (rp.store hi hv (fun _ => nofun)) (GE.refl G) (p _ H G (rp.store hi hv (fun _ => nofun)) (GE.refl G))
    | mu c => exact p.elim
    | bw j =>
      have p : PostS K cv W e G (match coerce (.bw j) ρ with
        | .ok d ρ1 => R.ok .nx (ρ1.set i (some (.sh d)))
        | _ => .bad) D := p
      cases q : coerce (.bw j) ρ with
      | bad => rw [q] at p; exact p.elim
      | exc c r => rw [q] at p; exact p.elim
      | ok d ρ1 =>
        rw [q] at p
        obtain ⟨G1, rp1, ge1, rd⟩ := coerce_ok rp hv q
        have hi1 : i < ρ1.length := by rw [← rp1.len, rp.len]; exact hi
        have rp2 := rp1.store (dv := .sh d) hi1 rd (fun _ => nofun)
        exact h G1 _ rp2 ge1 (p _ H G1 rp2 ge1)
  · exact p.elim
theorem ds_set {i : Nat} {x : Str} {a : Expr} {δ : DE} {pos pos' : Pos} (ha : DEx X cv W a δ) (hN : X.N.Nodup) (hi : X.N[i]? = some x := by rfl) (hx : Loc X.env.scope x := by first | exact Or.inl rfl | exact Or.inr rfl) (hs : swapsWith a (some (.Name x pos')) pos.line X.env = pure false := by rfl)
    (hf : X.fn x = true ∨ X.env.scope.names.lookup x = some .local := by first | exact .inl rfl | exact .inr rfl) : DSx X cv W (.Assign [.Name x pos'] a pos) (dSet i δ) := PS_imp (ps_set hN hi hx ha hs hf) fun D σ H ⟨e, G, ρ, rp, p⟩ =>
  tD_post rp p fun x ρ1 v H1 G1 rp1 _ hv p1 => putV_ok rp1 hv p1 fun _ _ _ _ z => z
end

/-! ### calls of defs -/
inductive FR where
  | exc (c : Str) | ok (dv : DV)
/-- no list, no dict in it -/
def noMut : PyData → Bool
  | .list _ => false
  | .dict _ => false
  | .tuple ds => go ds
  | _ => true
where
  go : List PyData → Bool
    | [] => true
    | d :: ds => noMut d && go ds
def plainR : DV → Bool
  | .sh d => noMut d
  | .ow (.lst ds) => ds.all noMut
  | _ => false
def peekAll (ρ : Rho) : List DV → Option (List PyData)
  | [] => some []
  | x :: xs => (peek ρ x).bind fun d => (peekAll ρ xs).map fun ds => d :: ds
def callR (F : List PyData → Option FR) (xs : List DV) (ρ : Rho) : R DV := match peekAll ρ xs with
  | none => .bad
  | some ds => match F ds with
    | none => .bad
    | some (.exc c) => .exc c ρ
    | some (.ok dv) => if plainR dv = true then .ok dv ρ else (coerceAll xs ρ).bind fun _ ρ1 => .ok dv ρ1
def dCall (F : List PyData → Option FR) (δ : DA) : DE := fun ρ => (δ ρ).bind fun xs ρ1 => callR F xs ρ1
def BgOk (H H' : Hp) : Prop := (∀ b o, H b = some o → isTbl o = false → H' b = some o) ∧ ∀ b o, H b = some o → isTbl o = true → H' b ≠ none
def ResOk (K : PySem.W.Frag) (H G' H' : Hp) (v : V) : DV → Prop
  | .sh d => RD K G' v d
  | .ow c => ∃ a, v = .ref a ∧ G' a = none ∧ H a = none ∧ OwnAt K G' H' a c
  | _ => False
/-- a def that does F to data -/
def spD (K : PySem.W.Frag) (cv : Str → Value) (F : List PyData → Option FR) : Sp := fun vs H Q E => ∃ (G : Hp) (T : List NdefX.NTab) (ds : List PyData), GE G H ∧ (∀ b o, G b = some o → isTbl o = false) ∧ TabsOk T H ∧ RDs K G vs ds ∧
  match F ds with
  | none => False
  | some (.exc c) => ∀ H', BgOk H H' → TabsOk T H' → E (cv c) none H'
  | some (.ok dv) => ∀ v H' G', GE G G' → GE G' H' → (∀ b o, G' b = some o → isTbl o = false) → (∀ b, G' b ≠ none → G b ≠ none ∨ H b = none) → BgOk H H' → TabsOk T H' → ResOk K H G' H' v dv → Q v H'
section
variable {K : PySem.W.Frag} {e : Ent} {G H : Hp} {σ : L2.St} {ρ : Rho}
theorem peekAll_len : ∀ {xs : List DV} {ds : List PyData}, peekAll ρ xs = some ds → ds.length = xs.length
  | [], ds, h => by cases h; rfl
  | x :: xs, ds, h => by
    unfold peekAll at h
    cases q : peek ρ x with
    | none => rw [q] at h; cases h
    | some d =>
      rw [q] at h
      cases q2 : peekAll ρ xs with
      | none => rw [q2] at h; cases h
      | some ds2 => rw [q2] at h; cases h; simp [peekAll_len q2]
/-- what the call itself asks: the lent slots stand in a ground that is greater by their objects -/
theorem lend_ok : ∀ {xs : List DV} {G : Hp} {ρ : Rho} {vs : List V} {ds : List PyData}, Rp K e G H σ ρ → VOks K e G H σ ρ vs xs → peekAll ρ xs = some ds →
    ∃ G1, GE G G1 ∧ GE G1 H ∧ (∀ b o, G1 b = some o → isTbl o = false) ∧ RDs K G1 vs ds ∧ (∀ b o, G1 b = some o → G b = some o ∨ (G b = none ∧ ((∃ xs, o = .lst xs) ∨ (∃ kvs, o = .dK kvs) ∨ ∃ kvs, o = .dT kvs)))
  | [], G, ρ, [], ds, rp, _, h => by
    cases h
    exact ⟨G, GE.refl G, rp.le, rp.nt, .nil, fun b o q => .inl q⟩
  | [], _, _, _ :: _, _, _, h, _ => h.elim
  | _ :: _, _, _, [], _, _, h, _ => h.elim
  | x :: xs, G, ρ, v :: vs, ds, rp, ⟨h1, h2, h3⟩, h => by
    unfold peekAll at h
    cases q : peek ρ x with
    | none => rw [q] at h; cases h
    | some d =>
      rw [q] at h
      cases q2 : peekAll ρ xs with
      | none => rw [q2] at h; cases h
      | some ds2 =>
        rw [q2] at h
        have h : some (d :: ds2) = some ds := h
        cases h
        obtain ⟨G1, ge1, le1, nt1, rd1, old1⟩ := lend_ok rp h3 q2
        rcases peek_ok rp h1 q with rd | ⟨a, c, rfl, o, rfl⟩
        · exact ⟨G1, ge1, le1, nt1, .cons (rd.mono ge1.rd) rd1, old1⟩
        · obtain ⟨u, hu, ht, hm⟩ := o.there
          have hk : (∃ xs, u = .lst xs) ∨ (∃ kvs, u = .dK kvs) ∨ ∃ kvs, u = .dT kvs := by
            cases c with
            | lst ds => obtain ⟨xs, z, _⟩ := o; rw [hu] at z; cases z; exact .inl ⟨_, rfl⟩
            | dic t kvs =>
              rcases o with ⟨_, es, _, z, _⟩ | ⟨_, es, _, z, _⟩
              · rw [hu] at z; cases z; exact .inr (.inl ⟨_, rfl⟩)
              · rw [hu] at z; cases z; exact .inr (.inr ⟨_, rfl⟩)
          cases hg : G1 a with
          | some w =>
            have e1 : w = u := by
              have := le1 a w hg
              rw [hu] at this; exact (Option.some.inj this).symm
            subst e1
            have g2 : RdLe G G1 := ge1.rd
            refine ⟨G1, ge1, le1, nt1, .cons ?_ rd1, old1⟩
            cases c with
            | lst ds =>
              obtain ⟨xs, z, r⟩ := o
              rw [hu] at z; cases z
              exact .lst (.inl (.inl hg)) (r.mono g2)
            | dic t kvs =>
              rcases o with ⟨_, es, ds, z, r, z2⟩ | ⟨_, es, ds, z, r, z2⟩
              · rw [hu] at z; cases z; subst z2
                exact .dK (.inl hg) (r.mono g2)
              · rw [hu] at z; cases z; subst z2
                exact .dT (.inl hg) (r.mono g2)
          | none =>
            have o1 : OwnAt K G1 H a c := o.mono ge1.rd fun _ q => q
            have ge2 : GE G1 (upd G1 a u) := ge_upd hg
            refine ⟨upd G1 a u, ge1.trans ge2, fun b w z => ?_, fun b w z => ?_, .cons (o1.rd hu hg) (rd1.mono ge2.rd), fun b w z => ?_⟩
            · by_cases hb : b = a
              · subst hb; rw [upd_same] at z; cases z; exact hu
              · rw [upd_ne hb] at z; exact le1 b w z
            · by_cases hb : b = a
              · subst hb; rw [upd_same] at z; cases z; exact ht
              · rw [upd_ne hb] at z; exact nt1 b w z
            · by_cases hb : b = a
              · subst hb; rw [upd_same] at z; cases z
                refine .inr ⟨?_, hk⟩
                cases hgb : G b with
                | none => rfl
                | some w => have := ge1 b w hgb; rw [hg] at this; cases this
              · rw [upd_ne hb] at z; exact old1 b w z
/-- behind a call, whatever was in the ground: the slots as they were, the ground with what is new, less what was lent -/
theorem Rp.after {G1 G' H' : Hp} (rp : Rp K e G H σ ρ) (ge1 : GE G G1) (old : ∀ b o, G1 b = some o → G b = some o ∨ (G b = none ∧ ((∃ xs, o = HO.lst xs) ∨ (∃ kvs, o = HO.dK kvs) ∨ ∃ kvs, o = HO.dT kvs)))
    (ge' : GE G1 G') (le' : GE G' H') (nt' : ∀ b o, G' b = some o → isTbl o = false) (new' : ∀ b, G' b ≠ none → G1 b ≠ none ∨ H b = none) (bg' : BgOk H H') (tb' : TabsOk e.T H') (hle : GE G1 H) :
    Rp K e (fun b => if G b = none ∧ G1 b ≠ none then none else G' b) H' σ ρ ∧ GE G (fun b => if G b = none ∧ G1 b ≠ none then none else G' b) := by
  have keepH : ∀ b o, H b = some o → isTbl o = false → H' b = some o := bg'.1
  have sub : ∀ b o, (if G b = none ∧ G1 b ≠ none then none else G' b) = some o → G' b = some o ∧ ¬ (G b = none ∧ G1 b ≠ none) := fun b o z => by
    by_cases c : G b = none ∧ G1 b ≠ none
    · rw [if_pos c] at z; cases z
    · rw [if_neg c] at z; exact ⟨z, c⟩
  have ge2 : GE G (fun b => if G b = none ∧ G1 b ≠ none then none else G' b) := fun b o z => by
    show (if G b = none ∧ G1 b ≠ none then none else G' b) = some o
    rw [if_neg (fun c => by rw [z] at c; cases c.1)]
    exact ge' b o (ge1 b o z)
  refine ⟨⟨fun b o z => le' b o (sub b o z).1, fun b o z => nt' b o (sub b o z).1, fun b o h0 m t => ?_, fun b m => ?_, fun b o h0 t => ?_, fun b z => ?_, fun b o z => ?_, fun p hp => ?_, tb', rp.len, fun i v dv h1 h2 => ?_, rp.has, rp.apart⟩, ge2⟩
  · obtain ⟨k1, k2⟩ := rp.bg b o h0 m t
    refine ⟨fun l => keepH b o (k1 l) t, fun l => ?_⟩
    obtain ⟨ob, z⟩ := k2 l
    exact ⟨ob, keepH b _ z rfl⟩
  · have := rp.mt b m
    cases z : H b with
    | none => exact absurd z this
    | some o =>
      cases t : isTbl o with
      | false => rw [keepH b o z t]; simp
      | true => exact bg'.2 b o z t
  · have := rp.tb b o h0 t
    cases z : H b with
    | none => exact absurd z this
    | some o =>
      cases t : isTbl o with
      | false => rw [keepH b o z t]; simp
      | true => exact bg'.2 b o z t
  · cases q : (if G b = none ∧ G1 b ≠ none then none else G' b) with
    | none => exact absurd q z
    | some o =>
      obtain ⟨h1, h2⟩ := sub b o q
      rcases new' b (by rw [h1]; simp) with z1 | z1
      · have : G b ≠ none := fun c => h2 ⟨c, z1⟩
        exact rp.new b this
      · exact .inr (rp.fresh0 z1)
  · refine ⟨fun l => ge2 b o ((rp.ge b o z).1 l), fun l => ?_⟩
    obtain ⟨ob, q⟩ := (rp.ge b o z).2 l
    exact ⟨ob, ge2 b _ q⟩
  · obtain ⟨h1, h2, h3, h4⟩ := rp.pr p hp
    refine ⟨keepH _ _ h1 h4, ?_, h3, h4⟩
    · show (if G p.1 = none ∧ G1 p.1 ≠ none then none else G' p.1) = none
      by_cases c : G1 p.1 = none
      · rw [if_neg (fun z => z.2 c)]
        cases q : G' p.1 with
        | none => rfl
        | some o =>
          rcases new' p.1 (by rw [q]; simp) with z | z
          · exact absurd c z
          · rw [h1] at z; cases z
      · rw [if_pos ⟨h2, c⟩]
  · refine (rp.slot i v dv h1 h2).mono ge2.rd (fun a ev hd n => ?_) fun a u ev hd q => ?_
    · show (if G a = none ∧ G1 a ≠ none then none else G' a) = none
      by_cases c : G1 a = none
      · rw [if_neg (fun z => z.2 c)]
        cases q : G' a with
        | none => rfl
        | some o =>
          obtain ⟨u, hu, _⟩ := (rp.slot i v dv h1 h2).tracked ev hd
          rcases new' a (by rw [q]; simp) with z | z
          · exact absurd c z
          · rw [hu] at z; cases z
      · rw [if_pos ⟨n, c⟩]
    · obtain ⟨u', hu, ht, _⟩ := (rp.slot i v dv h1 h2).tracked ev hd
      rw [q] at hu; cases hu
      exact keepH a u q ht
end
end DL
end

section
set_option Elab.async false
set_option linter.all false
set_option maxRecDepth 100000
set_option maxHeartbeats 1000000
namespace DL
open PySem PySem.Spec PyProof.Rows L2
variable [Tbl]
section
variable {K : PySem.W.Frag} {e : Ent} {G H : Hp} {σ : L2.St} {ρ : Rho}
theorem coerce_peek {x : DV} {d : PyData} {ρ1 : Rho} (h : coerce x ρ = .ok d ρ1) : peek ρ x = some d ∧ ∀ y, peek ρ1 y = peek ρ y := by
  cases x with
  | sh z => cases h; exact ⟨rfl, fun _ => rfl⟩
  | ow c => cases h; exact ⟨rfl, fun _ => rfl⟩
  | mu c => cases h
  | op a => cases h
  | bw i =>
    have h : (match ρ[i]? with
      | some (some (.sh d)) => R.ok d ρ
      | some (some (.ow c)) => .ok c.data (ρ.set i (some (.sh c.data)))
      | _ => .bad) = .ok d ρ1 := h
    split at h
    · rename_i q
      cases h
      exact ⟨by simp [peek, q], fun _ => rfl⟩
    · rename_i c q
      cases h
      refine ⟨by simp [peek, q], fun y => ?_⟩
      cases y with
      | bw j =>
        by_cases hj : j = i
        · subst hj
          have hl : j < ρ.length := (List.getElem?_eq_some_iff.mp q).1
          simp [peek, q, List.getElem?_set_self hl]
        · simp [peek, List.getElem?_set_ne (Ne.symm hj)]
      | _ => rfl
    · cases h
theorem coerceAll_peek : ∀ {xs : List DV} {ρ ρ' : Rho} {ds : List PyData}, coerceAll xs ρ = .ok ds ρ' → peekAll ρ xs = some ds
  | [], ρ, ρ', ds, h => by cases h; rfl
  | x :: xs, ρ, ρ', ds, h => by
    unfold coerceAll at h
    cases q : coerce x ρ with
    | bad => rw [q] at h; cases h
    | exc c r => rw [q] at h; cases h
    | ok d ρ1 =>
      rw [q, R.bind_ok] at h
      cases q2 : coerceAll xs ρ1 with
      | bad => rw [q2] at h; cases h
      | exc c r => rw [q2] at h; cases h
      | ok ds2 ρ2 =>
        rw [q2, R.bind_ok] at h
        cases h
        obtain ⟨p1, p2⟩ := coerce_peek q
        have p3 := coerceAll_peek q2
        have p4 : ∀ ys : List DV, peekAll ρ1 ys = peekAll ρ ys := fun ys => by
          induction ys with
          | nil => rfl
          | cons y ys ih => unfold peekAll; rw [p2, ih]
        unfold peekAll
        rw [p1, ← p4, p3]
        rfl
mutual
theorem RD.noMut {G' G2 : Hp} (g : ∀ a xs, G' a = some (.tup xs) → G2 a = some (.tup xs)) : ∀ {v : V} {d : PyData}, noMut d = true → RD K G' v d → RD K G2 v d
  | _, _, _, .non => .non
  | _, _, _, .bl b => .bl b
  | _, _, _, .int i => .int i
  | _, _, _, .str x => .str x
  | _, _, h, .lst _ _ => by simp [DL.noMut] at h
  | _, _, h, .dK _ _ => by simp [DL.noMut] at h
  | _, _, h, .dT _ _ => by simp [DL.noMut] at h
  | _, _, h, .tup q r => .tup (g _ _ q) (RDs.noMut g (by simpa [DL.noMut] using h) r)
theorem RDs.noMut {G' G2 : Hp} (g : ∀ a xs, G' a = some (.tup xs) → G2 a = some (.tup xs)) : ∀ {vs : List V} {ds : List PyData}, noMut.go ds = true → RDs K G' vs ds → RDs K G2 vs ds
  | _, _, _, .nil => .nil
  | _, _, h, .cons r t => by
    simp only [noMut.go, Bool.and_eq_true] at h
    exact .cons (RD.noMut g h.1 r) (RDs.noMut g h.2 t)
end
theorem noMut_go : ∀ {ds : List PyData}, ds.all noMut = true → noMut.go ds = true
  | [], _ => rfl
  | d :: ds, h => by
    simp only [List.all_cons, Bool.and_eq_true] at h
    simp only [noMut.go, Bool.and_eq_true]
    exact ⟨h.1, noMut_go h.2⟩
/-- what a def gives is a value in flight -/
theorem ResOk.vok {G' H' : Hp} {v : V} {dv : DV} {G0 H0 : Hp} (rp0 : Rp K e G0 H0 σ ρ) (r : ResOk K H0 G' H' v dv) : VOk K e G' H' σ ρ v dv := by
  cases dv with
  | sh d => exact r
  | ow c =>
    obtain ⟨a, rfl, h1, h2, o⟩ := r
    refine ⟨a, rfl, h1, rp0.fresh0 h2, rp0.freshP h2, o, fun j dv hj hs => ?_⟩
    cases z : dv.oc? with
    | none => rfl
    | some c =>
      obtain ⟨u, hu, _⟩ := (rp0.slot j _ dv hs hj).tracked rfl (by rw [z]; simp)
      rw [h2] at hu; cases hu
  | mu c => exact r.elim
  | op a => exact r.elim
  | bw i => exact r.elim
/-- THE CALL: from what the promise asks to what follows -/
theorem call_post {cv : Str → Value} {W : WX} {F : List PyData → Option FR} {xs : List DV} {vs : List V} {Q : VK} (rp : Rp K e G H σ ρ) (hv : VOks K e G H σ ρ vs xs)
    (p : Post K cv W e G σ (callR F xs ρ) fun dv ρ' G' H' => ∀ v, VOk K e G' H' σ ρ' v dv → Q v H') : spD K cv F vs H Q (WE W σ) := by
  unfold callR at p
  cases q1 : peekAll ρ xs with
  | none => rw [q1] at p; exact p.elim
  | some ds =>
    rw [q1] at p
    dsimp only at p
    cases q2 : F ds with
    | none => rw [q2] at p; exact p.elim
    | some fr =>
      rw [q2] at p
      cases fr with
      | exc c =>
        dsimp only at p
        obtain ⟨G1, ge1, le1, nt1, rd1, old1⟩ := lend_ok rp hv q1
        refine ⟨G1, e.T, ds, le1, nt1, rp.tabs, rd1, ?_⟩
        rw [q2]
        intro H' bg tb
        have a := rp.after (G1 := G1) (G' := G1) (H' := H') ge1 old1 (GE.refl G1) (fun b o z => bg.1 b o (le1 b o z) (nt1 b o z)) nt1 (fun b z => .inl z) bg tb le1
        exact p H' _ a.1 a.2
      | ok dv =>
        dsimp only at p
        by_cases hp : plainR dv = true
        · rw [if_pos hp] at p
          obtain ⟨G1, ge1, le1, nt1, rd1, old1⟩ := lend_ok rp hv q1
          refine ⟨G1, e.T, ds, le1, nt1, rp.tabs, rd1, ?_⟩
          rw [q2]
          intro v H' G' ge' le' nt' new' bg tb res
          have a := rp.after (G1 := G1) (G' := G') (H' := H') ge1 old1 ge' le' nt' new' bg tb le1
          refine p H' _ a.1 a.2 v ?_
          -- the result holds no lent object
          have hg : ∀ a' xs', G' a' = some (.tup xs') → (fun b => if G b = none ∧ G1 b ≠ none then none else G' b) a' = some (.tup xs') := fun a' xs' z => by
            have nb : ¬ (G a' = none ∧ G1 a' ≠ none) := fun ⟨c1, c2⟩ => by
              cases q : G1 a' with
              | none => exact c2 q
              | some o =>
                have q' := ge' a' o q
                rcases old1 a' o q with z1 | ⟨_, z1⟩
                · rw [c1] at z1; cases z1
                · rw [q'] at z; cases z; rcases z1 with ⟨_, z1⟩ | ⟨_, z1⟩ | ⟨_, z1⟩ <;> cases z1
            show (if _ then _ else _) = _
            rw [if_neg nb]; exact z
          cases dv with
          | sh d => exact RD.noMut hg (by simpa [plainR] using hp) res
          | ow c =>
            cases c with
            | lst ds' =>
              obtain ⟨a', rfl, h1, h2, xs', h3, r⟩ := res
              have r2 : ResOk K H (fun b => if G b = none ∧ G1 b ≠ none then none else G' b) H' (.ref a') (.ow (.lst ds')) := by
                refine ⟨a', rfl, ?_, h2, xs', h3, RDs.noMut hg (noMut_go (by simpa [plainR] using hp)) r⟩
                show (if _ then _ else _) = _
                by_cases c : G a' = none ∧ G1 a' ≠ none
                · rw [if_pos c]
                · rw [if_neg c]; exact h1
              exact r2.vok rp
            | dic t kvs => simp [plainR] at hp
          | mu c => exact res.elim
          | op a => exact res.elim
          | bw i => exact res.elim
        · rw [if_neg hp] at p
          cases q3 : coerceAll xs ρ with
          | bad => rw [q3] at p; exact p.elim
          | exc c r => exact absurd q3 coerceAll_noexc
          | ok ds2 ρ2 =>
          rw [q3, R.bind_ok] at p
          obtain ⟨G2, rp2, ge2, rd2⟩ := coerceAll_ok rp hv q3
          have p2 := Post.ge p ge2
          have e2 := coerceAll_peek q3
          rw [q1] at e2
          cases e2
          refine ⟨G2, e.T, ds, rp2.le, rp2.nt, rp2.tabs, rd2, ?_⟩
          rw [q2]
          intro v H' G' ge' le' nt' new' bg tb res
          have a := rp2.after (G1 := G2) (G' := G') (H' := H') (GE.refl G2) (fun b o z => .inl z) ge' le' nt' new' bg tb rp2.le
          have eG : (fun b => if G2 b = none ∧ G2 b ≠ none then none else G' b) = G' := by
            funext b
            rw [if_neg (fun c => c.2 c.1)]
          rw [eG] at a
          exact p2 H' G' a.1 a.2 v (res.vok rp2)
end
/-! ### a def by its data function -/
/-- the def x does F to data -/
structure Fd (P : Program) (w : World) (K : PySem.W.Frag) (mg : Str → Option Value) (base : Heap) (cv : Str → Value) (k : Nat) (x : Str) (F : List PyData → Option FR) : Prop where
  ex : ∃ (f : Addr) (fd : FuncData) (ps : List Str), FnOk P w K mg base (L2N.CX P w) k f fd ps (spD K cv F) ∧ mg x = some (.ref f) ∧ PySem.W.keepIn K (.ref f) = true ∧ Binds K fd ps []
theorem Fd.mono {P : Program} {w : World} {K : PySem.W.Frag} {mg : Str → Option Value} {base : Heap} {cv : Str → Value} {j k : Nat} {x : Str} {F : List PyData → Option FR} (h : Fd P w K mg base cv j x F) (l : j ≤ k) : Fd P w K mg base cv k x F := by
  obtain ⟨f, fd, ps, h1, h2⟩ := h.ex
  exact ⟨f, fd, ps, h1.mono l, h2⟩
section
variable {X : Cx} {cv : Str → Value} {W : WX}
theorem de_call {k : Nat} {x : Str} {F : List PyData → Option FR} {a : Expr} {es : List Expr} {δ : DA} {p pos : Pos} (fd : Fd X.prog X.w X.K X.mg X.base cv k x F) (hr : Room k X.A) (tk : L2N.Takes X W) (ha : DAx X cv W (a :: es) δ) (hg : Gl X x := by rfl)
    (hdb : (x == ("__debug__" : Str)) = false := by decide) (he : starEach (a :: es) X.env = (false, eval a X.env) :: starEach es X.env := by rfl) (hpl : (backTo pos (starEach es X.env)).any (·.1) = false := by rfl) :
    DEx X cv W (.Call (.Name x p) (a :: es) [] pos) (dCall F δ) := by
  obtain ⟨f, fdd, ps, h1, h2, h3, h4⟩ := fd.ex
  refine PE_imp (pe_callS h1 hr hg h2 h3 h4 (fun σ => L2N.passAt tk σ) ha hdb he hpl) fun σ H Q ⟨e, G, ρ, rp, q⟩ => ?_
  exact ⟨e, G, ρ, rp, Post.bind q fun xs ρ1 G1 H1 rp1 ge1 p1 vs hvs => call_post rp1 hvs p1⟩
/-- x(), no argument -/
theorem de_call0 {k : Nat} {x : Str} {F : List PyData → Option FR} {p pos : Pos} (fd : Fd X.prog X.w X.K X.mg X.base cv k x F) (hr : Room k X.A) (tk : L2N.Takes X (fun _ _ _ _ => False)) (hF : ∀ ds c, F ds ≠ some (.exc c)) (hg : Gl X x := by rfl)
    (hdb : (x == ("__debug__" : Str)) = false := by decide) : DEx X cv W (.Call (.Name x p) [] [] pos) (dCall F dNil) := by
  obtain ⟨f, fdd, ps, h1, h2, h3, h4⟩ := fd.ex
  refine PE_imp (pe_call0 h1 hr hg h2 h3 h4 (.nil : Vals [] []) (E := fun _ _ _ => False) (L2N.passes_call tk fun _ _ _ _ z => z) hdb) fun σ H Q ⟨e, G, ρ, rp, q⟩ => ?_
  have q : Post X.K cv W e G σ (callR F [] ρ) fun dv ρ' G' H' => ∀ v, VOk X.K e G' H' σ ρ' v dv → Q v H' := q
  have z := call_post (vs := []) (xs := []) rp trivial q
  obtain ⟨G1, T, ds, g1, g2, g3, g4, g5⟩ := z
  refine ⟨G1, T, ds, g1, g2, g3, g4, ?_⟩
  cases q2 : F ds with
  | none => rw [q2] at g5; exact g5
  | some fr =>
    rw [q2] at g5
    cases fr with
    | exc c => exact absurd q2 (hF ds c)
    | ok dv => exact g5
end
/-- the slots at a def's entry -/
def entryR (n : Nat) (ds : List PyData) : Rho := ds.map (fun d => some (.sh d)) ++ List.replicate (n - ds.length) none
/-- what a body makes of data -/
def bodyF (n : Nat) (δ : DS) (ds : List PyData) : Option FR := match δ (entryR n ds) with
  | .bad => none
  | .exc c _ => some (.exc c)
  | .ok .nx _ => some (.ok (.sh .none))
  | .ok (.rt (.sh d)) _ => some (.ok (.sh d))
  | .ok (.rt (.ow c)) _ => some (.ok (.ow c))
  | .ok _ _ => none
theorem entry_get {n : Nat} {ds : List PyData} {i : Nat} {dv : DV} (h : (entryR n ds)[i]? = some (some dv)) : ∃ d, ds[i]? = some d ∧ dv = .sh d := by
  unfold entryR at h
  by_cases hi : i < ds.length
  · rw [List.getElem?_append_left (by simpa using hi), List.getElem?_map] at h
    cases q : ds[i]? with
    | none => rw [q] at h; cases h
    | some d => rw [q] at h; cases h; exact ⟨d, rfl, rfl⟩
  · rw [List.getElem?_append_right (by simpa using hi), List.getElem?_replicate] at h
    split at h <;> cases h
theorem start_get {N : List Str} {vs : List V} {i : Nat} {v : V} (h : vs[i]? = some v) : (L2.start N vs)[i]? = some (some v) := by
  unfold L2.start
  have hi := (List.getElem?_eq_some_iff.mp h).1
  rw [List.getElem?_append_left (by simpa using hi), List.getElem?_map, h]
  rfl
theorem rp_entry {K : PySem.W.Frag} {G H : Hp} {T : List NdefX.NTab} {N : List Str} {vs : List V} {ds : List PyData} (le : GE G H) (nt : ∀ b o, G b = some o → isTbl o = false) (tb : TabsOk T H) (r : RDs K G vs ds) (hl : vs.length ≤ N.length) :
    Rp K ⟨H, G, fun _ => False, fun _ => false, [], T⟩ G H (L2.start N vs) (entryR N.length ds) where
  le := le
  nt := nt
  bg := fun b o h _ _ => ⟨fun _ => h, fun z => nomatch z⟩
  mt := fun b z => z.elim
  tb := fun b o h _ => by
    have h : H b = some o := h
    rw [h]; simp
  new := fun b h => .inl h
  ge := fun b o h => ⟨fun _ => h, fun z => nomatch z⟩
  pr := fun p hp => nomatch hp
  tabs := tb
  len := by
    unfold L2.start entryR
    simp [r.length]
  slot := fun i v dv h1 h2 => by
    obtain ⟨d, h3, rfl⟩ := entry_get h2
    obtain ⟨v', h4, rd⟩ := r.get h3
    rw [start_get h4] at h1
    cases h1
    exact rd
  has := fun i dv h => by
    obtain ⟨d, h3, rfl⟩ := entry_get h
    obtain ⟨v', h4, rd⟩ := r.get h3
    exact ⟨v', start_get h4⟩
  apart := fun i j v dv dv' _ _ _ h3 _ => by
    obtain ⟨d, _, rfl⟩ := entry_get h3
    exact .inl rfl
/-- the entry's facts at a def's end -/
theorem rp_exit {K : PySem.W.Frag} {G H G' H' : Hp} {T : List NdefX.NTab} {σ : L2.St} {ρ : Rho} (rp : Rp K ⟨H, G, fun _ => False, fun _ => false, [], T⟩ G' H' σ ρ) : BgOk H H' ∧ (∀ b, G' b ≠ none → G b ≠ none ∨ H b = none) ∧ GE G G' :=
  ⟨⟨fun b o h t => (rp.bg b o h (fun z => z) t).1 rfl, fun b o h t => rp.tb b o h t⟩, rp.new, fun b o h => (rp.ge b o h).1 rfl⟩
section
variable {P : Program} {w : World} {K : PySem.W.Frag} {mg : Str → Option Value} {base : Heap} {cv : Str → Value}
/-- THE RULE: a def's data function by its body's -/
theorem fnok_of {x : Str} {st : Stmt} {f : Addr} {fd : FuncData} {N ps : List Str} {k : Nat} {F : List PyData → Option FR} {δ : DS} (Fn : Fun K x x st f fd) (S : FnScope N ps (defScope st))
    (hbody : ∀ (cdv : Value), fd.code = cdv → ∀ (A : Around) (outer : List Env) (s : Shared) (H : Hp) (E : XK), Room k (A.deeper (envOfC x (defScope st) s.heap.objs.size f cdv)) →
      DSs (cxOf (L2N.CX P w) P w K mg base N x (defScope st) f cdv A outer s H E) cv (fun cls d _ H => E cls d H) (defBody st) δ)
    (hlen : ∀ ds r, F ds = some r → ds.length = ps.length) (hF : ∀ ds r, F ds = some r → bodyF N.length δ ds = some r) : FnOk P w K mg base (L2N.CX P w) (k + 1) f fd ps (spD K cv F) := by
  obtain ⟨oc, od, kV, doc, pm, an, cdv0, ct, osl, rfl, lk, hcd⟩ := Fn.ex
  refine fn_of lk hcd S (fun vs H Q E h => ?_) (fun A outer s H vs Q E hr h => ⟨_, hbody cdv0 rfl A outer s H E hr, ?_⟩)
  · obtain ⟨G, T, ds, _, _, _, r, q⟩ := h
    cases e : F ds with
    | none => rw [e] at q; exact q.elim
    | some fr => rw [r.length]; exact hlen ds fr e
  · obtain ⟨G, T, ds, le, nt, tb, r, q⟩ := h
    cases e : F ds with
    | none => rw [e] at q; exact q.elim
    | some fr =>
      rw [e] at q
      have hl : vs.length ≤ N.length := by
        rw [r.length, hlen ds fr e]
        have := congrArg List.length S.pre
        rw [List.length_take] at this
        omega
      refine ⟨_, G, entryR N.length ds, rp_entry le nt tb r hl, ?_⟩
      have hb := hF ds fr e
      unfold bodyF at hb
      cases z : δ (entryR N.length ds) with
      | bad => rw [z] at hb; cases hb
      | exc c ρ' =>
        rw [z] at hb; cases hb
        intro σ' H' G' rp ge
        have x := rp_exit rp
        exact q H' x.1 rp.tabs
      | ok o ρ' =>
        rw [z] at hb
        cases o with
        | nx =>
          cases hb
          intro σ' H' G' rp ge
          have x := rp_exit rp
          exact q .non H' G' x.2.2 rp.le rp.nt x.2.1 x.1 rp.tabs .non
        | bk => cases hb
        | ct => cases hb
        | rt dv =>
          cases dv with
          | sh d =>
            cases hb
            intro v σ' H' G' rp ge hv
            have x := rp_exit rp
            exact q v H' G' x.2.2 rp.le rp.nt x.2.1 x.1 rp.tabs hv
          | ow c =>
            cases hb
            intro v σ' H' G' rp ge hv
            have x := rp_exit rp
            obtain ⟨a, h1, h2, h3, _, h5, _⟩ := hv
            exact q v H' G' x.2.2 rp.le rp.nt x.2.1 x.1 rp.tabs ⟨a, h1, h2, h3, h5⟩
          | mu c => cases hb
          | op a => cases hb
          | bw i => cases hb
theorem fd_of {x : Str} {st : Stmt} {f : Addr} {fd : FuncData} {N ps : List Str} {k : Nat} {F : List PyData → Option FR} {δ : DS} (Fn : Fun K x x st f fd) (S : FnScope N ps (defScope st)) (hm : mg x = some (.ref f)) (hb : Binds K fd ps [])
    (hbody : ∀ (cdv : Value), fd.code = cdv → ∀ (A : Around) (outer : List Env) (s : Shared) (H : Hp) (E : XK), Room k (A.deeper (envOfC x (defScope st) s.heap.objs.size f cdv)) →
      DSs (cxOf (L2N.CX P w) P w K mg base N x (defScope st) f cdv A outer s H E) cv (fun cls d _ H => E cls d H) (defBody st) δ)
    (hlen : ∀ ds r, F ds = some r → ds.length = ps.length) (hF : ∀ ds r, F ds = some r → bodyF N.length δ ds = some r) : Fd P w K mg base cv (k + 1) x F := ⟨f, fd, ps, fnok_of Fn S hbody hlen hF, hm, Fn.kp, hb⟩
end
end DL
end

section
set_option Elab.async false
set_option linter.all false
set_option maxRecDepth 100000
set_option maxHeartbeats 1000000
namespace DL
open PySem PySem.Spec PyProof.Rows L2
variable [Tbl]
/-! ### targets -/
abbrev DG := PyData → DS
def gN (i : Nat) : DG := fun d ρ => putV i (.sh d) ρ
def gAll : List DG → List PyData → DS
  | [], [], ρ => .ok .nx ρ
  | g :: gs, d :: ds, ρ => (g d ρ).bind fun o ρ1 => match o with
    | .nx => gAll gs ds ρ1
    | _ => .bad
  | _, _, _ => .bad
def gT (gs : List DG) : DG := fun d ρ => match d with
  | .tuple ds => gAll gs ds ρ
  | _ => .bad
def PostG (K : PySem.W.Frag) (e : Ent) (G : Hp) (r : R SO) (Q : L2.St → Hp → Prop) : Prop := match r with
  | .ok .nx ρ' => ∀ σ' H' G', Rp K e G' H' σ' ρ' → GE G G' → Q σ' H'
  | _ => False
theorem PostG.ge {K : PySem.W.Frag} {e : Ent} {G G1 : Hp} {r : R SO} {Q : L2.St → Hp → Prop} (h : PostG K e G r Q) (g : GE G G1) : PostG K e G1 r Q := by
  cases r with
  | ok o ρ' => cases o with
    | nx => exact fun σ' H' G' rp ge => h σ' H' G' rp (g.trans ge)
    | _ => exact h
  | _ => exact h
def tG (K : PySem.W.Frag) (γ : DG) : TG := fun v σ H Q => ∃ e G ρ d, Rp K e G H σ ρ ∧ RD K G v d ∧ PostG K e G (γ d ρ) Q
def tGs (K : PySem.W.Frag) (γs : List DG) : TGs := fun vs σ H Q => ∃ e G ρ ds, Rp K e G H σ ρ ∧ RDs K G vs ds ∧ PostG K e G (gAll γs ds ρ) Q
theorem PG_imp {X : Cx} {tg : Expr} {t t' : TG} (h : PG X tg t) (i : ∀ v σ H Q, t' v σ H Q → t v σ H Q) : PG X tg t' := ⟨fun pins s σ H v u Q I r q => h.run pins s σ H v u Q I r (i v σ H Q q)⟩
theorem PGs_imp {X : Cx} {tg : List Expr} {t t' : TGs} (h : PGs X tg t) (i : ∀ v σ H Q, t' v σ H Q → t v σ H Q) : PGs X tg t' := ⟨fun pins s σ H v u Q I r q => h.run pins s σ H v u Q I r (i v σ H Q q)⟩
section
variable {X : Cx} {cv : Str → Value} {W : WX}
abbrev DGx (X : Cx) (tg : Expr) (γ : DG) : Prop := PG X tg (tG X.K γ)
theorem putV_sh {i : Nat} {d : PyData} {ρ : Rho} {K : PySem.W.Frag} {e : Ent} {G : Hp} {Q : L2.St → Hp → Prop} (p : PostG K e G (putV i (.sh d) ρ) Q) : i < ρ.length ∧ ∀ σ' H' G', Rp K e G' H' σ' (ρ.set i (some (.sh d))) → GE G G' → Q σ' H' := by
  unfold putV at p
  by_cases hi : i < ρ.length
  · rw [if_pos hi] at p; exact ⟨hi, p⟩
  · rw [if_neg hi] at p; exact p.elim
theorem dg_name {i : Nat} {x : Str} {pos : Pos} (hN : X.N.Nodup) (hi : X.N[i]? = some x := by rfl) (hx : Loc X.env.scope x := by first | exact Or.inl rfl | exact Or.inr rfl) (hf : X.fn x = true ∨ X.env.scope.names.lookup x = some .local := by first | exact .inl rfl | exact .inr rfl) : DGx X (.Name x pos) (gN i) :=
  PG_imp (pg_name hN hi hx hf) fun v σ H Q ⟨e, G, ρ, d, rp, rd, p⟩ => by
    obtain ⟨hl, p⟩ := putV_sh p
    exact p _ H G (rp.store (dv := .sh d) hl rd (fun _ => nofun)) (GE.refl G)
theorem dgs_nil : PGs X [] (tGs X.K []) := PGs_imp pgs_nil fun v σ H Q ⟨e, G, ρ, ds, rp, rd, p⟩ => by
  cases rd with
  | nil => exact ⟨rfl, p σ H G rp (GE.refl G)⟩
  | cons _ _ => exact p.elim
theorem dgs_cons {t : Expr} {ts : List Expr} {γ : DG} {γs : List DG} (h1 : DGx X t γ) (h2 : PGs X ts (tGs X.K γs)) (hs : (assignEach (t :: ts) X.env).map (·.2) = assign t X.env :: (assignEach ts X.env).map (·.2) := by rfl) : PGs X (t :: ts) (tGs X.K (γ :: γs)) :=
  PGs_imp (pgs_cons h1 h2 hs) fun v σ H Q ⟨e, G, ρ, ds, rp, rd, p⟩ => by
    match v, ds, rd with
    | _, _, .nil => exact p.elim
    | _, _, @RDs.cons _ _ v1 vs d1 ds1 r1 r2 =>
      refine ⟨_, _, rfl, e, G, ρ, d1, rp, r1, ?_⟩
      have p : PostG X.K e G ((γ d1 ρ).bind fun o ρ1 => match o with
        | .nx => gAll γs ds1 ρ1
        | _ => .bad) Q := p
      cases q : γ d1 ρ with
      | bad => rw [q] at p; exact p.elim
      | exc c r => rw [q] at p; exact p.elim
      | ok o ρ1 =>
        rw [q, R.bind_ok] at p
        cases o with
        | nx => exact fun σ1 H1 G1 rp1 ge1 => ⟨e, G1, ρ1, ds1, rp1, r2.mono ge1.rd, p.ge ge1⟩
        | _ => exact p.elim
theorem dg_tup {es : List Expr} {k : Nat} {γs : List DG} {pos : Pos} (hc : X.calm = true) (h : PGs X es (tGs X.K γs)) (hlen : es.length = γs.length := by rfl) (hn : (assignEach es X.env).length = es.length := by rfl) (hst : (assignEach es X.env).findIdx? (·.1) = none := by rfl) :
    DGx X (.Tuple es k pos) (gT γs) := PG_imp (pg_tup hc h hn hst) fun v σ H Q ⟨e, G, ρ, d, rp, rd, p⟩ => by
  have gl : ∀ (γs : List DG) (ds : List PyData) (ρ : Rho) G Q, PostG X.K e G (gAll γs ds ρ) Q → ds.length = γs.length := by
    intro γs
    induction γs with
    | nil => intro ds ρ G Q p; cases ds with
      | nil => rfl
      | cons _ _ => exact p.elim
    | cons g gs ih =>
      intro ds ρ G Q p
      cases ds with
      | nil => exact p.elim
      | cons d ds =>
        have p : PostG X.K e G ((g d ρ).bind fun o ρ1 => match o with
          | .nx => gAll gs ds ρ1
          | _ => .bad) Q := p
        cases q : g d ρ with
        | bad => rw [q] at p; exact p.elim
        | exc c r => rw [q] at p; exact p.elim
        | ok o ρ1 =>
          rw [q, R.bind_ok] at p
          cases o with
          | nx => simp [ih ds ρ1 G Q p]
          | _ => exact p.elim
  cases rd with
  | tup h r => exact ⟨_, _, rfl, .inl (.inl (rp.le _ _ h)), by rw [r.length, hlen]; exact gl γs _ ρ G Q p, e, G, ρ, _, rp, r, p⟩
  | _ => exact p.elim
/-- target = value, the value shared from then on -/
def dAsg (γ : DG) (δ : DE) : DS := fun ρ => (δ ρ).bind fun x ρ1 => (coerce x ρ1).bind fun d ρ2 => match γ d ρ2 with
  | .ok .nx ρ3 => .ok .nx ρ3
  | _ => .bad
theorem ds_asg {tg a : Expr} {γ : DG} {δ : DE} {pos : Pos} (ha : DEx X cv W a δ) (hg : DGx X tg γ) (hs : swapsWithSole [tg] a pos.line X.env = pure false := by rfl) (hw : swappedStores [tg] a X.env = pure none := by rfl)
    (h1 : (assignEach [tg] X.env).map (·.2) = [assign tg X.env] := by rfl) : DSx X cv W (.Assign [tg] a pos) (dAsg γ δ) := PS_imp (ps_asg ha hg hs hw h1) fun D σ H ⟨e, G, ρ, rp, p⟩ =>
  tD_post rp p fun x ρ1 v H1 G1 rp1 _ hv p1 => by
    cases q : coerce x ρ1 with
    | bad => rw [q] at p1; exact p1.elim
    | exc c r => rw [q] at p1; exact absurd q coerce_noexc
    | ok d ρ2 =>
      rw [q, R.bind_ok] at p1
      obtain ⟨G2, rp2, ge2, rd⟩ := coerce_ok rp1 hv q
      refine ⟨e, G2, ρ2, d, rp2, rd, ?_⟩
      cases q2 : γ d ρ2 with
      | bad => rw [q2] at p1; exact p1.elim
      | exc c r => rw [q2] at p1; exact p1.elim
      | ok o ρ3 =>
        rw [q2] at p1
        cases o with
        | nx => exact fun σ' H' G' rp' ge' => p1 σ' H' G' rp' (ge2.trans ge')
        | _ => exact p1.elim
end
/-! ### what is walked -/
abbrev DI := Rho → R (List PyData)
/-- the walk J yields the data ds, one by one -/
def ItOk (K : PySem.W.Frag) (e : Ent) (G : Hp) (J : It) (ds : List PyData) : Prop := ∀ (e' : Ent) (G' H : Hp) (σ : L2.St) (ρ : Rho), Rp K e' G' H σ ρ → GE G G' →
  (∀ (i : Nat) (d : PyData), ds[i]? = some d → J.go i H ∧ ∀ x H', J.yld i H x H' → ∃ G'', Rp K e' G'' H' σ ρ ∧ GE G' G'' ∧ RD K G'' x d) ∧ J.stop ds.length H
def tI (K : PySem.W.Frag) (cv : Str → Value) (W : WX) (ι : DI) : TI := fun σ H R => ∃ e G ρ, Rp K e G H σ ρ ∧ Post K cv W e G σ (ι ρ) fun ds ρ' G' H' => ∀ J, ItOk K e G' J ds → R J H'
theorem PI_imp {X : Cx} {tg it : Expr} {t t' : TI} (h : PI X tg it t) (i : ∀ σ H R, t' σ H R → t σ H R) : PI X tg it t' := ⟨fun pins s σ H R I q => h.run pins s σ H R I (i σ H R q)⟩
def iSeq (δ : DE) : DI := fun ρ => (δ ρ).bind fun x ρ1 => (coerce x ρ1).bind fun d ρ2 => match d with
  | .list ds => .ok ds ρ2
  | _ => .bad
def iTupD (δ : DE) : DI := fun ρ => (δ ρ).bind fun x ρ1 => (coerce x ρ1).bind fun d ρ2 => match d with
  | .tuple ds => .ok ds ρ2
  | _ => .bad
def signs (z : Str) : List PyData := z.cps.toList.map fun c => .str ⟨#[c]⟩
def iStrD (δ : DE) : DI := fun ρ => (δ ρ).bind fun x ρ1 => match peek ρ1 x with
  | some (.str z) => .ok (signs z) ρ1
  | _ => .bad
def rangeL (lo : Int) (n : Nat) : List PyData := (List.range n).map fun (i : Nat) => .int (lo + i)
def iRange1 (δ : DE) : DI := fun ρ => (δ ρ).bind fun x ρ1 => match peek ρ1 x with
  | some (.int j) => if -(2 ^ 62) ≤ j ∧ j < 2 ^ 62 then .ok (rangeL 0 j.toNat) ρ1 else .bad
  | _ => .bad
def iRange2 (δ ε : DE) : DI := fun ρ => (δ ρ).bind fun x ρ1 => (ε ρ1).bind fun y ρ2 => match peek ρ2 (keep x), peek ρ2 y with
  | some (.int i), some (.int j) => if -(2 ^ 62) ≤ i ∧ i < 2 ^ 62 ∧ -(2 ^ 62) ≤ j ∧ j < 2 ^ 62 then .ok (rangeL i (j - i).toNat) ρ2 else .bad
  | _, _ => .bad
section
variable {X : Cx} {cv : Str → Value} {W : WX} {tg : Expr}
abbrev DIx (X : Cx) (cv : Str → Value) (W : WX) (tg it : Expr) (ι : DI) : Prop := PI X tg it (tI X.K cv W ι)
theorem itok_list {K : PySem.W.Frag} {e : Ent} {G : Hp} {a : Addr} {xs : List V} {ds : List PyData} (h : SqL K G a xs) (r : RDs K G xs ds) : ItOk K e G (Itl K a) ds := fun e' G' H σ ρ rp ge => by
  have hh : SqL K H a xs := (ge.trans rp.le).rd.sqL h
  refine ⟨fun i d hd => ?_, xs, hh, by rw [r.length]; exact Nat.le_refl _⟩
  obtain ⟨v, hv, rd⟩ := r.get hd
  exact ⟨⟨xs, v, hh, hv⟩, fun x H' ⟨e1, y⟩ => by
    subst e1
    have := y xs hh
    rw [hv] at this; cases this
    exact ⟨G', rp, GE.refl G', rd.mono ge.rd⟩⟩
theorem itok_tup {K : PySem.W.Frag} {e : Ent} {G : Hp} {a : Addr} {xs : List V} {ds : List PyData} (h : G a = some (.tup xs)) (r : RDs K G xs ds) : ItOk K e G (Itt K a) ds := fun e' G' H σ ρ rp ge => by
  have hh : SqT K H a xs := .inl (.inl ((ge.trans rp.le) _ _ h))
  refine ⟨fun i d hd => ?_, xs, hh, by rw [r.length]; exact Nat.le_refl _⟩
  obtain ⟨v, hv, rd⟩ := r.get hd
  exact ⟨⟨xs, v, hh, hv⟩, fun x H' ⟨e1, y⟩ => by
    subst e1
    have := y xs hh
    rw [hv] at this; cases this
    exact ⟨G', rp, GE.refl G', rd.mono ge.rd⟩⟩
theorem di_list {l : Expr} {δ : DE} (hl : DEx X cv W l δ) : DIx X cv W tg l (iSeq δ) := PI_imp (pi_list hl) fun σ H Rr ⟨e, G, ρ, rp, p⟩ => by
  refine ⟨e, G, ρ, rp, Post.bind p fun x ρ1 G1 H1 rp1 ge1 p1 v hv => ?_⟩
  cases q : coerce x ρ1 with
  | bad => rw [q] at p1; exact p1.elim
  | exc c r => exact absurd q coerce_noexc
  | ok d ρ2 =>
    rw [q, R.bind_ok] at p1
    obtain ⟨G2, rp2, ge2, rd⟩ := coerce_ok rp1 hv q
    cases rd with
    | lst h r => exact ⟨_, rfl, ⟨_, rp2.le.rd.sqL h⟩, p1 H1 G2 rp2 ge2 _ (itok_list h r)⟩
    | _ => exact p1.elim
theorem di_tup {l : Expr} {δ : DE} (hl : DEx X cv W l δ) : DIx X cv W tg l (iTupD δ) := PI_imp (pi_tup hl) fun σ H Rr ⟨e, G, ρ, rp, p⟩ => by
  refine ⟨e, G, ρ, rp, Post.bind p fun x ρ1 G1 H1 rp1 ge1 p1 v hv => ?_⟩
  cases q : coerce x ρ1 with
  | bad => rw [q] at p1; exact p1.elim
  | exc c r => exact absurd q coerce_noexc
  | ok d ρ2 =>
    rw [q, R.bind_ok] at p1
    obtain ⟨G2, rp2, ge2, rd⟩ := coerce_ok rp1 hv q
    cases rd with
    | tup h r => exact ⟨_, rfl, ⟨_, .inl (.inl (rp2.le _ _ h))⟩, p1 H1 G2 rp2 ge2 _ (itok_tup h r)⟩
    | _ => exact p1.elim
theorem itok_str {K : PySem.W.Frag} {e : Ent} {G : Hp} (z : Str) : ItOk K e G (Its z) (signs z) := fun e' G' H σ ρ rp ge => by
  refine ⟨fun i d hd => ?_, by show z.cps.size ≤ (signs z).length; simp [signs]⟩
  unfold signs at hd
  rw [List.getElem?_map] at hd
  cases q : z.cps.toList[i]? with
  | none => rw [q] at hd; cases hd
  | some c =>
    rw [q] at hd; cases hd
    have hi : i < z.cps.size := by have := (List.getElem?_eq_some_iff.mp q).1; simpa using this
    exact ⟨hi, fun x H' ⟨e1, c', hc, ev⟩ => by
      subst e1; subst ev
      have : z.cps[i]? = some c := by rw [← Array.getElem?_toList]; exact q
      rw [this] at hc; cases hc
      exact ⟨G', rp, GE.refl G', .str _⟩⟩
theorem di_str {l : Expr} {δ : DE} (hl : DEx X cv W l δ) : DIx X cv W tg l (iStrD δ) := PI_imp (pi_str hl) fun σ H Rr ⟨e, G, ρ, rp, p⟩ => by
  refine ⟨e, G, ρ, rp, Post.bind p fun x ρ1 G1 H1 rp1 ge1 p1 v hv => ?_⟩
  split at p1
  · rename_i z q
    have := pk_str (peek_ok rp1 hv q)
    subst this
    exact ⟨z, rfl, p1 H1 G1 rp1 (GE.refl G1) _ (itok_str z)⟩
  · exact p1.elim
theorem itok_range {K : PySem.W.Frag} {e : Ent} {G : Hp} (lo : Int) (n : Nat) : ItOk K e G (Itr lo n) (rangeL lo n) := fun e' G' H σ ρ rp ge => by
  refine ⟨fun i d hd => ?_, by show n ≤ (rangeL lo n).length; simp [rangeL]⟩
  unfold rangeL at hd
  rw [List.getElem?_map] at hd
  cases q : (List.range n)[i]? with
  | none => rw [q] at hd; cases hd
  | some c =>
    rw [q] at hd; cases hd
    obtain ⟨h1, h2⟩ := List.getElem?_eq_some_iff.mp q
    rw [List.getElem_range] at h2
    subst h2
    exact ⟨by show i < n; simpa using h1, fun x H' ⟨e1, ev⟩ => by
      subst e1; subst ev
      exact ⟨G', rp, GE.refl G', .int _⟩⟩
theorem di_range1 {a : Expr} {δ : DE} {p pos : Pos} (hm : X.mg "range" = none) (ha : DEx X cv W a δ) (hg : Gl X "range" := by rfl) (hs : starEach [a] X.env = [(false, eval a X.env)] := by rfl) : DIx X cv W tg (.Call (.Name "range" p) [a] [] pos) (iRange1 δ) :=
  PI_imp (pi_range1 (ta := tA X.K cv W (dCons δ dNil)) hg hm (da_cons ha da_nil (by rw [hs]; rfl)) hs) fun σ H Rr ⟨e, G, ρ, rp, p⟩ => by
    refine ⟨e, G, ρ, rp, ?_⟩
    unfold dCons dNil
    unfold iRange1 at p
    cases q : δ ρ with
    | bad => rw [q] at p; exact p.elim
    | exc c r => rw [q] at p; exact p
    | ok x ρ1 =>
      rw [q, R.bind_ok] at p
      intro H1 G1 rp1 ge1 vs hvs
      match vs, hvs with
      | [v], ⟨hv, hk, _⟩ =>
        have p := p.ge ge1
        cases q2 : peek ρ1 x with
        | none => rw [q2] at p; exact p.elim
        | some d =>
          rw [q2] at p
          have q3 : peek ρ1 (keep x) = some d := by
            rw [← q2]; cases x <;> rfl
          cases d with
          | int j =>
            dsimp only at p
            by_cases hj : -(2 ^ 62) ≤ j ∧ j < 2 ^ 62
            · rw [if_pos hj] at p
              have := pk_int (peek_ok rp1 hv q3)
              subst this
              exact ⟨j, rfl, hj.1, hj.2, p H1 G1 rp1 (GE.refl G1) _ (itok_range 0 j.toNat)⟩
            · rw [if_neg hj] at p; exact p.elim
          | _ => exact p.elim
      | [], hvs => exact hvs.elim
      | _ :: _ :: _, ⟨_, _, h⟩ => exact h.elim
theorem di_range2 {a b : Expr} {δ ε : DE} {p pos : Pos} (hm : X.mg "range" = none) (ha : DEx X cv W a δ) (hb : DEx X cv W b ε) (hg : Gl X "range" := by rfl) (hs : starEach [a, b] X.env = [(false, eval a X.env), (false, eval b X.env)] := by rfl) (hs2 : starEach [b] X.env = [(false, eval b X.env)] := by rfl) :
    DIx X cv W tg (.Call (.Name "range" p) [a, b] [] pos) (iRange2 δ ε) :=
  PI_imp (pi_range2 (ta := tA X.K cv W (dCons δ (dCons ε dNil))) hg hm (da_cons ha (da_cons hb da_nil (by rw [hs2]; rfl)) (by rw [hs, hs2])) hs hs2) fun σ H Rr ⟨e, G, ρ, rp, p⟩ => by
    refine ⟨e, G, ρ, rp, ?_⟩
    unfold dCons dNil
    unfold iRange2 at p
    cases q : δ ρ with
    | bad => rw [q] at p; exact p.elim
    | exc c r => rw [q] at p; exact p
    | ok x ρ1 =>
      rw [q, R.bind_ok] at p
      rw [R.bind_ok]
      cases q1 : ε ρ1 with
      | bad => rw [q1] at p; exact p.elim
      | exc c r => rw [q1] at p; exact p
      | ok y ρ2 =>
        rw [q1, R.bind_ok] at p
        intro H1 G1 rp1 ge1 vs hvs
        match vs, hvs with
        | [v, u], ⟨hv, hk, hu, hk2, _⟩ =>
          have p := p.ge ge1
          split at p
          · rename_i i j e1 e2
            by_cases hj : -(2 ^ 62) ≤ i ∧ i < 2 ^ 62 ∧ -(2 ^ 62) ≤ j ∧ j < 2 ^ 62
            · rw [if_pos hj] at p
              have e3 : peek ρ2 (keep y) = some (.int j) := by rw [← e2]; cases y <;> rfl
              have z1 := pk_int (peek_ok rp1 hv e1)
              have z2 := pk_int (peek_ok rp1 hu e3)
              subst z1; subst z2
              exact ⟨i, j, rfl, hj, p H1 G1 rp1 (GE.refl G1) _ (itok_range i (j - i).toNat)⟩
            · rw [if_neg hj] at p; exact p.elim
          · exact p.elim
        | [], hvs => exact hvs.elim
        | [_], ⟨_, _, h⟩ => exact h.elim
        | _ :: _ :: _ :: _, ⟨_, _, _, _, h⟩ => exact h.elim
/-! ### for, while -/
def forD (γ : DG) (b : DS) : List PyData → DS
  | [], ρ => .ok .nx ρ
  | d :: ds, ρ => match γ d ρ with
    | .ok .nx ρ1 => (b ρ1).bind fun o ρ2 => match o with
      | .nx => forD γ b ds ρ2
      | .ct => forD γ b ds ρ2
      | .bk => .ok .nx ρ2
      | .rt dv => .ok (.rt dv) ρ2
    | _ => .bad
def dFor (ι : DI) (γ : DG) (b : DS) : DS := fun ρ => (ι ρ).bind fun ds ρ1 => forD γ b ds ρ1
theorem ds_for {it : Expr} {body : List Stmt} {ι : DI} {γ : DG} {b : DS} {pos : Pos} (hp : PassesOwn (model X.prog X.w) X.A X.env X.xe) (hc : X.calm = true) (hi : DIx X cv W tg it ι) (hg : DGx X tg γ) (hb : DSs X cv W body b)
    (hs : ∀ x, foldedSetIterable it X.env x = pure x := by intro _; rfl) : DSx X cv W (.For tg it body [] pos) (dFor ι γ b) := PS_imp (ps_for hp hc hi hg hb hs) fun D σ H ⟨e, G, ρ, rp, p⟩ => by
  refine ⟨e, G, ρ, rp, ?_⟩
  unfold dFor at p
  cases q : ι ρ with
  | bad => rw [q] at p; exact p.elim
  | exc c r => rw [q] at p; exact fun H' G' rp' ge' => p σ H' G' rp' ge'
  | ok ds ρ1 =>
    rw [q, R.bind_ok] at p
    intro H1 G1 rp1 ge1 J hJ
    refine ⟨fun i m σ H => m = ds.length - i ∧ i ≤ ds.length ∧ ∃ G' ρ', Rp X.K e G' H σ ρ' ∧ GE G1 G' ∧ PostS X.K cv W e G' (forD γ b (ds.drop i) ρ') D, ⟨ds.length, by simp, Nat.zero_le _, G1, ρ1, rp1, GE.refl G1, by simpa using p.ge ge1⟩, ?_⟩
    rintro i m σ2 H2 ⟨rfl, hi, G2, ρ2, rp2, ge2, p2⟩
    obtain ⟨h1, h2⟩ := hJ e G2 H2 σ2 ρ2 rp2 ge2
    by_cases hlt : i < ds.length
    · right
      have hd : ds[i]? = some ds[i] := by simp [hlt]
      obtain ⟨go, yl⟩ := h1 i _ hd
      refine ⟨go, fun σ' H' => ∃ G' ρ', Rp X.K e G' H' σ' ρ' ∧ GE G1 G' ∧ PostS X.K cv W e G' (forD γ b (ds.drop (i + 1)) ρ') D, fun σ' H' h => ⟨ds.length - (i + 1), by omega, rfl, hlt, h⟩, fun x H3 y => ?_⟩
      obtain ⟨G3, rp3, ge3, rd⟩ := yl x H3 y
      refine ⟨e, G3, ρ2, ds[i], rp3, rd, ?_⟩
      rw [List.drop_eq_getElem_cons hlt] at p2
      have p2 : PostS X.K cv W e G2 (match γ ds[i] ρ2 with
        | .ok .nx ρ1 => (b ρ1).bind fun o ρ2 => match o with
          | .nx => forD γ b (ds.drop (i + 1)) ρ2
          | .ct => forD γ b (ds.drop (i + 1)) ρ2
          | .bk => .ok .nx ρ2
          | .rt dv => .ok (.rt dv) ρ2
        | _ => .bad) D := p2
      cases qg : γ ds[i] ρ2 with
      | bad => rw [qg] at p2; exact p2.elim
      | exc c r => rw [qg] at p2; exact p2.elim
      | ok o ρ3 =>
        rw [qg] at p2
        cases o with
        | nx =>
          intro σ4 H4 G4 rp4 ge4
          refine ⟨e, G4, ρ3, rp4, ?_⟩
          have p3 := (p2.ge ge3).ge ge4
          have g14 : GE G1 G4 := (ge2.trans ge3).trans ge4
          dsimp only at p3
          cases qb : b ρ3 with
          | bad => rw [qb] at p3; exact p3.elim
          | exc c r => rw [qb] at p3; exact p3
          | ok o ρ5 =>
            rw [qb, R.bind_ok] at p3
            cases o with
            | nx => exact fun σ' H' G' rp' ge' => ⟨G', ρ5, rp', g14.trans ge', p3.ge ge'⟩
            | ct => exact fun σ' H' G' rp' ge' => ⟨G', ρ5, rp', g14.trans ge', p3.ge ge'⟩
            | bk => exact p3
            | rt dv => exact p3
        | _ => exact p2.elim
    · have e1 : i = ds.length := by omega
      subst e1
      left
      rw [List.drop_length] at p2
      exact ⟨h2, p2 σ2 H2 G2 rp2 (GE.refl G2)⟩
def whileD (c : DB) (b : DS) : Nat → DS
  | 0, _ => .bad
  | n + 1, ρ => (c ρ).bind fun t ρ1 => if t = true then (b ρ1).bind fun o ρ2 => match o with
      | .nx => whileD c b n ρ2
      | .ct => whileD c b n ρ2
      | .bk => .ok .nx ρ2
      | .rt dv => .ok (.rt dv) ρ2
    else .ok .nx ρ1
theorem ds_while (n : Nat) {c : Expr} {body : List Stmt} {γ : DB} {b : DS} {pos : Pos} (hp : PassesOwn (model X.prog X.w) X.A X.env X.xe) (hc : DTx X cv W c γ) (hb : DSs X cv W body b) : DSx X cv W (.While c body [] pos) (whileD γ b n) := PS_imp (ps_while hp hc hb) fun D σ H ⟨e, G, ρ, rp, p⟩ => by
  refine ⟨fun m σ H => ∃ G' ρ', Rp X.K e G' H σ ρ' ∧ PostS X.K cv W e G' (whileD γ b m ρ') D, ⟨n, G, ρ, rp, p⟩, ?_⟩
  rintro m σ1 H1 ⟨G1, ρ1, rp1, p1⟩
  cases m with
  | zero => exact p1.elim
  | succ m =>
    refine tB_post rp1 (f := fun t ρ1 => if t = true then (b ρ1).bind fun o ρ2 => match o with
      | .nx => whileD γ b m ρ2
      | .ct => whileD γ b m ρ2
      | .bk => .ok .nx ρ2
      | .rt dv => .ok (.rt dv) ρ2
    else .ok .nx ρ1) p1 fun t ρ2 H2 G2 rp2 ge2 p2 => ?_
    cases t with
    | false => rw [if_neg Bool.false_ne_true]; exact p2 σ1 H2 G2 rp2 (GE.refl G2)
    | true =>
      rw [if_pos rfl] at p2 ⊢
      refine ⟨fun σ' H' => ∃ G' ρ', Rp X.K e G' H' σ' ρ' ∧ PostS X.K cv W e G' (whileD γ b m ρ') D, fun σ' H' h => ⟨m, Nat.lt_succ_self m, h⟩, e, G2, ρ2, rp2, ?_⟩
      cases qb : b ρ2 with
      | bad => rw [qb] at p2; exact p2.elim
      | exc c r => rw [qb] at p2; exact p2
      | ok o ρ5 =>
        rw [qb, R.bind_ok] at p2
        cases o with
        | nx => exact fun σ' H' G' rp' ge' => ⟨G', ρ5, rp', p2.ge ge'⟩
        | ct => exact fun σ' H' G' rp' ge' => ⟨G', ρ5, rp', p2.ge ge'⟩
        | bk => exact p2
        | rt dv => exact p2
/-! ### raise -/
theorem ds_raise {C : Addr} {bmB : List Value} {B newId initId : String} {x m : Str} {j : Nat} {p p2 pos pos2 : Pos} (F : ExcBaseFacts B newId initId bmB) (q : PySem.W.excIn X.K C bmB newId = true) (gC : X.mg x = some (.ref C)) (kC : PySem.W.keepIn X.K (.ref C) = true) (r : Raises X (.ref C))
    (hcv : cv x = .ref C) (hc : X.calm = true) (tk : L2N.Takes X W) (hg : Gl X x := by rfl) (hdb : (x == ("__debug__" : Str)) = false := by decide) : DSx X cv W (.Raise (some (.Call (.Name x p) [.Constant (.str m) j p2] [] pos)) none pos2) (fun ρ => .exc x ρ) :=
  PS_imp (L2N.ps_raise hc tk (L2N.pmk_own F q gC kC r hg hdb)) fun D σ H ⟨e, G, ρ, rp, p⟩ => by
    have := p σ H G rp (GE.refl G)
    rw [hcv] at this
    exact this
end
end DL
end

section
set_option Elab.async false
set_option linter.all false
set_option maxRecDepth 100000
set_option maxHeartbeats 1000000
namespace DL
open PySem PySem.Spec PyProof.Rows L2
variable [Tbl]
/-! ### an object in the making -/
section
variable {K : PySem.W.Frag} {e : Ent} {G H : Hp} {σ : L2.St} {ρ : Rho}
def Ent.prot (e : Ent) (p : Addr) (o : HO) : Ent := { e with P := (p, o) :: e.P }
theorem SlotOk.prot {v : V} {dv : DV} {p : Addr} {o : HO} (s : SlotOk K e G H v dv) (h : ∀ a, v = .ref a → dv.oc? ≠ none → p ≠ a) : SlotOk K (e.prot p o) G H v dv := by
  cases dv with
  | sh d => exact s
  | ow c =>
    obtain ⟨a, rfl, n, z, pr, o⟩ := s
    exact ⟨a, rfl, n, z, fun q hq => (List.mem_cons.mp hq).elim (fun e1 => by rw [e1]; exact h a rfl (by simp [DV.oc?])) (pr q), o⟩
  | mu c =>
    obtain ⟨a, rfl, n, z, pr, o⟩ := s
    exact ⟨a, rfl, n, z, fun q hq => (List.mem_cons.mp hq).elim (fun e1 => by rw [e1]; exact h a rfl (by simp [DV.oc?])) (pr q), o⟩
  | op a => exact s
  | bw i => exact s
theorem Rp.toProt (r : Rp K e G H σ ρ) {p : Addr} {o : HO} (hp : H p = none) (ht : isTbl o = false) : Rp K (e.prot p o) G (upd H p o) σ ρ := by
  have r1 := r.alloc (o := o) hp
  refine ⟨r1.le, r1.nt, r1.bg, r1.mt, r1.tb, r1.new, r1.ge, fun q hq => ?_, r1.tabs, r1.len, fun i v dv h1 h2 => (r1.slot i v dv h1 h2).prot fun a ev hd z => ?_, r1.has, r1.apart⟩
  · rcases List.mem_cons.mp hq with e1 | hq
    · rw [e1]; exact ⟨upd_same, r.freshG hp, r.fresh0 hp, ht⟩
    · exact r1.pr q hq
  · obtain ⟨u, hu, _⟩ := (r.slot i v dv h1 h2).tracked ev hd
    rw [← z, hp] at hu; cases hu
theorem Rp.unprot {p : Addr} {o : HO} (r : Rp K (e.prot p o) G H σ ρ) : Rp K e G H σ ρ := by
  refine ⟨r.le, r.nt, r.bg, r.mt, r.tb, r.new, r.ge, fun q hq => r.pr q (List.mem_cons_of_mem _ hq), r.tabs, r.len, fun i v dv h1 h2 => ?_, r.has, r.apart⟩
  have s := r.slot i v dv h1 h2
  cases dv with
  | sh d => exact s
  | ow c => obtain ⟨a, rfl, n, z, pr, o⟩ := s; exact ⟨a, rfl, n, z, fun q hq => pr q (List.mem_cons_of_mem _ hq), o⟩
  | mu c => obtain ⟨a, rfl, n, z, pr, o⟩ := s; exact ⟨a, rfl, n, z, fun q hq => pr q (List.mem_cons_of_mem _ hq), o⟩
  | op a => exact s
  | bw i => exact s
/-- the object in the making is written -/
theorem Rp.protWrite {p : Addr} {o o' : HO} (r : Rp K (e.prot p o) G H σ ρ) (ht : isTbl o' = false) (hP : ∀ q ∈ e.P, q.1 ≠ p) (hl : ∃ xs, o = .lst xs) : Rp K (e.prot p o') G (upd H p o') σ ρ := by
  obtain ⟨h1, h2, h3, h4⟩ := r.pr (p, o) List.mem_cons_self
  dsimp only at h1 h2 h3 h4
  have h3 : e.H0 p = none := h3
  have kn : ∀ b u, b ≠ p → H b = some u → upd H p o' b = some u := fun b u hb q => by rw [upd_ne hb]; exact q
  have r0 := r.unprot
  refine ⟨fun b u q => kn b u (fun z => by rw [z, h2] at q; cases q) (r.le b u q), r.nt, fun b u q m t => ?_, fun b m => ?_, fun b u q t => ?_, r.new, r.ge, fun q hq => ?_, ⟨r.tabs.1, fun q hq => ?_⟩, r.len, fun i v dv q1 q2 => ?_, r.has, r.apart⟩
  · have nb : b ≠ p := fun z => by
      have q : e.H0 b = some u := q
      rw [z, h3] at q; cases q
    refine ⟨fun l => kn b u nb ((r.bg b u q m t).1 l), fun l => ?_⟩
    obtain ⟨ob, z⟩ := (r.bg b u q m t).2 l
    exact ⟨ob, kn _ _ nb z⟩
  · by_cases hb : b = p
    · subst hb; rw [upd_same]; simp
    · rw [upd_ne hb]; exact r.mt b m
  · by_cases hb : b = p
    · subst hb; rw [upd_same]; simp
    · rw [upd_ne hb]; exact r.tb b u q t
  · rcases List.mem_cons.mp hq with e1 | hq
    · rw [e1]; exact ⟨upd_same, h2, h3, ht⟩
    · have z := r0.pr q hq
      exact ⟨kn _ _ (hP q hq) z.1, z.2⟩
  · obtain ⟨xs, el⟩ := hl
    obtain ⟨ps, k1, k2, k3⟩ := r.tabs.2 q hq
    have n1 : q.1 ≠ p := fun z => by rw [z, h1, el] at k1; cases k1
    refine ⟨ps, kn _ _ n1 k1, k2, fun pos cvv hcv => ?_⟩
    obtain ⟨c, e1, e2⟩ := k3 pos cvv hcv
    exact ⟨c, e1, kn _ _ (fun z => by rw [z, h1, el] at e2; unfold LamX.CodeO at e2; cases e2) e2⟩
  · have na : ∀ a, v = .ref a → dv.oc? ≠ none → p ≠ a := fun a ev hd z => by
      have s := r.slot i v dv q1 q2
      cases dv with
      | sh d => exact hd rfl
      | ow c => obtain ⟨b, e1, _, _, pr, _⟩ := s; rw [ev] at e1; cases e1; exact pr (p, o) List.mem_cons_self z
      | mu c => obtain ⟨b, e1, _, _, pr, _⟩ := s; rw [ev] at e1; cases e1; exact pr (p, o) List.mem_cons_self z
      | op a => exact hd rfl
      | bw i => exact hd rfl
    exact ((r0.slot i v dv q1 q2).mono (GE.refl G).rd (fun _ _ _ z => z) fun a u ev hd q => kn a u (fun z => na a ev hd z.symm) q).prot na
/-- made: nobody holds it yet -/
theorem Rp.made {p : Addr} {xs : List V} {ds : List PyData} (r : Rp K (e.prot p (.lst xs)) G H σ ρ) (rd : RDs K G xs ds) (hP : ∀ q ∈ e.P, q.1 ≠ p) : VOk K e G H σ ρ (.ref p) (.ow (.lst ds)) := by
  obtain ⟨h1, h2, h3, h4⟩ := r.pr (p, .lst xs) List.mem_cons_self
  refine ⟨p, rfl, h2, h3, hP, ⟨xs, h1, rd⟩, fun j dv q1 q2 => ?_⟩
  have s := r.slot j _ dv q2 q1
  cases dv with
  | sh d => rfl
  | ow c => obtain ⟨b, e1, _, _, pr, _⟩ := s; cases e1; exact absurd rfl (pr (p, .lst xs) List.mem_cons_self)
  | mu c => obtain ⟨b, e1, _, _, pr, _⟩ := s; cases e1; exact absurd rfl (pr (p, .lst xs) List.mem_cons_self)
  | op a => rfl
  | bw i => rfl

/-! ### the slots of a comprehension's own names -/
def wipeR (ρ : Rho) : List Nat → Rho
  | [] => ρ
  | v :: vs => (wipeR ρ vs).set v none
theorem wipeR_length (ρ : Rho) : ∀ vs : List Nat, (wipeR ρ vs).length = ρ.length
  | [] => rfl
  | v :: vs => by unfold wipeR; rw [List.length_set, wipeR_length ρ vs]
theorem wipeR_get {i : Nat} {dv : DV} : ∀ {vs : List Nat}, (wipeR ρ vs)[i]? = some (some dv) → ρ[i]? = some (some dv) ∧ i ∉ vs
  | [], h => ⟨h, by simp⟩
  | v :: vs, h => by
    unfold wipeR at h
    by_cases hi : v = i
    · subst hi
      by_cases hv : v < (wipeR ρ vs).length
      · rw [List.getElem?_set_self hv] at h; cases h
      · rw [List.getElem?_eq_none (by simpa using hv)] at h; cases h
    · rw [List.getElem?_set_ne hi] at h
      obtain ⟨h1, h2⟩ := wipeR_get h
      exact ⟨h1, by simp only [List.mem_cons, not_or]; exact ⟨fun e => hi e.symm, h2⟩⟩
theorem Rp.wiped (r : Rp K e G H σ ρ) (vs : List Nat) : Rp K e G H (wipe σ vs) (wipeR ρ vs) := r.forget (by rw [wipe_length, wipeR_length]; exact r.len) fun i dv h => by
  obtain ⟨h1, h2⟩ := wipeR_get h
  exact ⟨h1, wipe_out h2⟩
/-- a turn's end: the own slots are forgotten, the others stand in the slots of the beginning -/
theorem Rp.rewiped {σ0 : L2.St} {vs : List Nat} (r : Rp K e G H σ ρ) (h : wipe σ vs = wipe σ0 vs) : Rp K e G H (wipe σ0 vs) (wipeR ρ vs) := by rw [← h]; exact r.wiped vs
def holdR (ρ : Rho) (i : Nat) : Option DV := match ρ[i]? with
  | some (some (.sh d)) => some (.sh d)
  | _ => none
def restoreR (ρ' ρ : Rho) : List Nat → Rho
  | [] => ρ'
  | v :: vs => (restoreR ρ' ρ vs).set v (holdR ρ v)
theorem restoreR_length (ρ' ρ : Rho) : ∀ vs : List Nat, (restoreR ρ' ρ vs).length = ρ'.length
  | [] => rfl
  | v :: vs => by unfold restoreR; rw [List.length_set, restoreR_length]
theorem restoreR_get {ρ' : Rho} {i : Nat} {dv : DV} : ∀ {vs : List Nat}, (restoreR ρ' ρ vs)[i]? = some (some dv) → (∃ d, dv = .sh d ∧ ρ[i]? = some (some (.sh d))) ∨ (ρ'[i]? = some (some dv) ∧ i ∉ vs)
  | [], h => .inr ⟨h, by simp⟩
  | v :: vs, h => by
    unfold restoreR at h
    by_cases hi : v = i
    · subst hi
      by_cases hv : v < (restoreR ρ' ρ vs).length
      · rw [List.getElem?_set_self hv] at h
        unfold holdR at h
        split at h
        · rename_i d q
          cases h
          exact .inl ⟨d, rfl, q⟩
        · cases h
      · rw [List.getElem?_eq_none (by simpa using hv)] at h; cases h
    · rw [List.getElem?_set_ne hi] at h
      rcases restoreR_get h with z | ⟨z1, z2⟩
      · exact .inl z
      · exact .inr ⟨z1, by simp only [List.mem_cons, not_or]; exact ⟨fun e => hi e.symm, z2⟩⟩
theorem Rp.restored {G0 H0 : Hp} {ρ' : Rho} {vs : List Nat} (r0 : Rp K e G0 H0 σ ρ) (ge : GE G0 G) (r : Rp K e G H (wipe σ vs) ρ') : Rp K e G H σ (restoreR ρ' ρ vs) := by
  refine ⟨r.le, r.nt, r.bg, r.mt, r.tb, r.new, r.ge, r.pr, r.tabs, ?_, fun i v dv h1 h2 => ?_, fun i dv h => ?_, fun i j v d1 d2 hij h1 h2 h3 h4 => ?_⟩
  · rw [restoreR_length, ← r.len, wipe_length]
  · rcases restoreR_get h2 with ⟨d, rfl, q⟩ | ⟨q1, q2⟩
    · exact RD.mono ge.rd (r0.slot i v _ h1 q)
    · exact r.slot i v dv (by rw [wipe_out q2]; exact h1) q1
  · rcases restoreR_get h with ⟨d, rfl, q⟩ | ⟨q1, q2⟩
    · exact r0.has i _ q
    · obtain ⟨v, z⟩ := r.has i dv q1
      exact ⟨v, by rw [wipe_out q2] at z; exact z⟩
  · rcases restoreR_get h3 with ⟨d, rfl, q⟩ | ⟨q1, q2⟩
    · exact .inl rfl
    · rcases restoreR_get h4 with ⟨d, rfl, q⟩ | ⟨q3, q4⟩
      · exact .inr rfl
      · exact r.apart i j v d1 d2 hij (by rw [wipe_out q2]; exact h1) (by rw [wipe_out q4]; exact h2) q1 q3
theorem set_set_none {α : Type} (l : List (Option α)) (i : Nat) (x : Option α) : (l.set i x).set i none = l.set i none := by
  apply List.ext_getElem?
  intro j
  by_cases h : j = i
  · subst h
    by_cases hl : j < l.length
    · rw [List.getElem?_set_self (by simpa using hl), List.getElem?_set_self hl]
    · rw [List.getElem?_eq_none (by simpa using hl), List.getElem?_eq_none (by simpa using hl)]
  · rw [List.getElem?_set_ne (Ne.symm h), List.getElem?_set_ne (Ne.symm h), List.getElem?_set_ne (Ne.symm h)]
theorem wipe_set {σ : L2.St} {i : Nat} {x : Option V} : ∀ {vs : List Nat}, i ∈ vs → wipe (σ.set i x) vs = wipe σ vs
  | v :: vs, h => by
    unfold wipe
    by_cases hm : i ∈ vs
    · rw [wipe_set hm]
    · have e1 : i = v := (List.mem_cons.mp h).elim id fun z => absurd z hm
      subst e1
      have : ∀ (us : List Nat), i ∉ us → wipe (σ.set i x) us = (wipe σ us).set i x := by
        intro us
        induction us with
        | nil => intro _; rfl
        | cons u us ih =>
          intro hu
          simp only [List.mem_cons, not_or] at hu
          unfold wipe
          rw [ih hu.2, List.set_comm _ _ hu.1]
      rw [this vs hm, set_set_none]
theorem wipe_nothing {τ : L2.St} : ∀ (us : List Nat), (∀ u ∈ us, ∀ v, τ[u]? ≠ some (some v)) → wipe τ us = τ
  | [], _ => rfl
  | u :: us, h => by
    show (wipe τ us).set u none = τ
    rw [wipe_nothing us fun z hz => h z (List.mem_cons_of_mem _ hz)]
    apply List.ext_getElem?
    intro j
    by_cases hj : j = u
    · subst hj
      by_cases hl : j < τ.length
      · rw [List.getElem?_set_self hl]
        cases qq : τ[j]? with
        | none => rw [List.getElem?_eq_none_iff] at qq; omega
        | some o =>
          cases o with
          | none => rfl
          | some x => exact absurd qq (h j List.mem_cons_self x)
      · rw [List.getElem?_eq_none (by simpa using hl), List.getElem?_eq_none (by omega)]
    · rw [List.getElem?_set_ne (Ne.symm hj)]
theorem wipe_idem (σ : L2.St) (vs : List Nat) : wipe (wipe σ vs) vs = wipe σ vs := wipe_nothing vs fun u hu v q => (wipe_some q).2 hu
theorem wipe_wipe {σ : L2.St} {i : Nat} {x : Option V} {vs : List Nat} (h : i ∈ vs) : wipe ((wipe σ vs).set i x) vs = wipe (wipe σ vs) vs := wipe_set h
/-- the reading of a comprehension's target -/
def CG (K : PySem.W.Frag) (vs : List Nat) (g : TG) (γ : DG) : Prop := ∀ (e : Ent) (G H : Hp) (σ0 σ : L2.St) (ρ : Rho) (v : V) (d : PyData) (Q : L2.St → Hp → Prop), wipe σ vs = wipe σ0 vs → Rp K e G H σ ρ → RD K G v d →
  PostG K e G (γ d ρ) (fun σ2 H2 => wipe σ2 vs = wipe σ0 vs → Q σ2 H2) → g v σ H Q
theorem cg_name {vs : List Nat} {i : Nat} (hi : i ∈ vs) : CG K vs (gName i) (gN i) := fun e G H σ0 σ ρ v d Q hw rp rd p => by
  obtain ⟨hl, p⟩ := putV_sh p
  exact p _ H G (rp.store (dv := .sh d) hl rd (fun _ => nofun)) (GE.refl G) (by rw [wipe_set hi]; exact hw)
def CGs (K : PySem.W.Frag) (vs : List Nat) (g : TGs) (γs : List DG) : Prop := ∀ (e : Ent) (G H : Hp) (σ0 σ : L2.St) (ρ : Rho) (us : List V) (ds : List PyData) (Q : L2.St → Hp → Prop), wipe σ vs = wipe σ0 vs → Rp K e G H σ ρ → RDs K G us ds →
  PostG K e G (gAll γs ds ρ) (fun σ2 H2 => wipe σ2 vs = wipe σ0 vs → Q σ2 H2) → g us σ H Q
theorem cgs_nil {vs : List Nat} : CGs K vs gNil [] := fun e G H σ0 σ ρ us ds Q hw rp rd p => by
  cases rd with
  | nil => exact ⟨rfl, p σ H G rp (GE.refl G) hw⟩
  | cons _ _ => exact p.elim
theorem cgs_cons {vs : List Nat} {g : TG} {gs : TGs} {γ : DG} {γs : List DG} (h1 : CG K vs g γ) (h2 : CGs K vs gs γs) : CGs K vs (gCons g gs) (γ :: γs) := fun e G H σ0 σ ρ us ds Q hw rp rd p => by
  match us, ds, rd with
  | _, _, .nil => exact p.elim
  | _, _, @RDs.cons _ _ v1 vs1 d1 ds1 r1 r2 =>
    refine ⟨_, _, rfl, h1 e G H σ0 σ ρ v1 d1 _ hw rp r1 ?_⟩
    have p : PostG K e G ((γ d1 ρ).bind fun o ρ1 => match o with
      | .nx => gAll γs ds1 ρ1
      | _ => .bad) (fun σ2 H2 => wipe σ2 vs = wipe σ0 vs → Q σ2 H2) := p
    cases q : γ d1 ρ with
    | bad => rw [q] at p; exact p.elim
    | exc c r => rw [q] at p; exact p.elim
    | ok o ρ1 =>
      rw [q, R.bind_ok] at p
      cases o with
      | nx => exact fun σ1 H1 G1 rp1 ge1 hw1 => h2 e G1 H1 σ0 σ1 ρ1 vs1 ds1 Q hw1 rp1 (r2.mono ge1.rd) (p.ge ge1)
      | _ => exact p.elim
theorem gAll_len {e : Ent} : ∀ {γs : List DG} {ds : List PyData} {ρ : Rho} {G : Hp} {Q : L2.St → Hp → Prop}, PostG K e G (gAll γs ds ρ) Q → ds.length = γs.length
  | [], [], _, _, _, _ => rfl
  | [], _ :: _, _, _, _, p => p.elim
  | _ :: _, [], _, _, _, p => p.elim
  | g :: gs, d :: ds, ρ, G, Q, p => by
    have p : PostG K e G ((g d ρ).bind fun o ρ1 => match o with
      | .nx => gAll gs ds ρ1
      | _ => .bad) Q := p
    cases q : g d ρ with
    | bad => rw [q] at p; exact p.elim
    | exc c r => rw [q] at p; exact p.elim
    | ok o ρ1 =>
      rw [q, R.bind_ok] at p
      cases o with
      | nx => simp [gAll_len p]
      | _ => exact p.elim
theorem cg_tup {vs : List Nat} {n : Nat} {gs : TGs} {γs : List DG} (hn : γs.length = n) (h : CGs K vs gs γs) : CG K vs (gTup K n gs) (gT γs) := fun e G H σ0 σ ρ v d Q hw rp rd p => by
  cases rd with
  | tup hh r => exact ⟨_, _, rfl, .inl (.inl (rp.le _ _ hh)), by rw [r.length, ← hn]; exact gAll_len p, h e G H σ0 σ ρ _ _ Q hw rp r p⟩
  | _ => exact p.elim
end
def lcD (γ : DG) (c : DB) (δ : DE) (vs : List Nat) : List PyData → List PyData → Rho → R (List PyData)
  | [], acc, ρ => .ok acc ρ
  | d :: ds, acc, ρ => match γ d ρ with
    | .ok .nx ρ1 => match c ρ1 with
      | .ok true ρ2 => match δ ρ2 with
        | .ok y ρ3 => match coerce y ρ3 with
          | .ok z ρ4 => if acc.length < 1000000 then lcD γ c δ vs ds (acc ++ [z]) (wipeR ρ4 vs) else .bad
          | _ => .bad
        | _ => .bad
      | .ok false ρ2 => lcD γ c δ vs ds acc (wipeR ρ2 vs)
      | _ => .bad
    | _ => .bad
def dLc (ι : DI) (γ : DG) (c : DB) (δ : DE) (vs : List Nat) : DE := fun ρ => (ι ρ).bind fun ds ρ1 => match lcD γ c δ vs ds [] (wipeR ρ1 vs) with
  | .ok zs ρ2 => .ok (.ow (.lst zs)) (restoreR ρ2 ρ1 vs)
  | _ => .bad
def dYes : DB := fun ρ => .ok true ρ
abbrev W0 : WX := fun _ _ _ _ => False
theorem takesW0 {X : Cx} : L2N.Takes X W0 := fun _ _ x => by
  obtain ⟨_, _, _, _, _, _, _, _, _, _, _, _, _, _, _, _, z⟩ := x
  exact z.elim
section
variable {X : Cx} {cv : Str → Value} {W : WX}
abbrev DTs (X : Cx) (cv : Str → Value) (ifs : List Expr) (δ : DB) : Prop := PTs X ifs (tB X.K cv W0 δ)
theorem dts_nil : DTs X cv [] dYes := ⟨fun pins s σ H Q I ⟨e, G, ρ, rp, p⟩ => pts_nil.run pins s σ H Q I (p H G rp (GE.refl G))⟩
theorem dts_one {c : Expr} {γ : DB} (h : DTx X cv W0 c γ) : DTs X cv [c] γ := pts_one h
theorem lc_loop {K : PySem.W.Frag} {g : TG} {γ : DG} {c : DB} {δ : DE} {vs : List Nat} (hg : CG K vs g γ) {σ : L2.St} {H1 : Hp} {Q : VK} {e : Ent} {G1 : Hp} {ρ1 : Rho} {ds : List PyData} {J : It} (rp1 : Rp K e G1 H1 σ ρ1) (hJ : ItOk K e G1 J ds)
    (p : Post K cv W e G1 σ (match lcD γ c δ vs ds [] (wipeR ρ1 vs) with
      | .ok zs ρ2 => .ok (.ow (.lst zs)) (restoreR ρ2 ρ1 vs)
      | _ => .bad) fun dv ρ' G' H' => ∀ v, VOk K e G' H' σ ρ' v dv → Q v H') (D : Addr) (hD : H1 D = none) : ∃ Wk : Nat → Nat → Hp → Prop, (∃ m, Wk 0 m (upd H1 D (.lst []))) ∧ ∀ i m H, Wk i m H →
      (J.stop i H ∧ Q (.ref D) H) ∨ (J.go i H ∧ ∃ Nx : Hp → Prop, (∀ H', Nx H' → ∃ m', m' < m ∧ Wk (i + 1) m' H') ∧ ∀ x H', J.yld i H x H' → g x (wipe σ vs) H' fun σ2 H2 => wipe σ2 vs = wipe σ vs ∧ tB K cv W0 c σ2 H2 fun b H3 =>
        if b = true then tD K cv W0 δ σ2 H3 fun y H4 => ∃ acc, H4 D = some (.lst acc) ∧ acc.length < sizeLine ∧ Nx (upd H4 D (.lst (acc ++ [y]))) else Nx H3) := by
  have hP := rp1.freshP hD
  -- the invariant
  refine ⟨fun i m H2 => m = ds.length - i ∧ i ≤ ds.length ∧ ∃ G2 ρ2 xs acc, Rp K (e.prot D (.lst xs)) G2 H2 (wipe σ vs) ρ2 ∧ GE G1 G2 ∧ RDs K G2 xs acc ∧ ∃ zs ρ3, lcD γ c δ vs (ds.drop i) acc ρ2 = .ok zs ρ3 ∧ lcD γ c δ vs ds [] (wipeR ρ1 vs) = .ok zs ρ3, ⟨ds.length, by simp, Nat.zero_le _, G1, wipeR ρ1 vs, [], [], (rp1.wiped vs).toProt hD rfl, GE.refl G1, .nil, ?_⟩, ?_⟩
  · cases q2 : lcD γ c δ vs ds [] (wipeR ρ1 vs) with
    | bad => rw [q2] at p; exact p.elim
    | exc c r => rw [q2] at p; exact p.elim
    | ok zs ρ3 => exact ⟨zs, ρ3, by simpa using q2, rfl⟩
  · rintro i m H2 ⟨rfl, hi, G2, ρ2, xs, acc, rp2, ge2, rd2, zs, ρ3, l1, l2⟩
    obtain ⟨h1, h2⟩ := hJ _ G2 H2 _ ρ2 rp2 ge2
    by_cases hlt : i < ds.length
    · right
      have hd : ds[i]? = some ds[i] := by simp [hlt]
      obtain ⟨go, yl⟩ := h1 i _ hd
      refine ⟨go, fun H' => ∃ G2 ρ2 xs acc, Rp K (e.prot D (.lst xs)) G2 H' (wipe σ vs) ρ2 ∧ GE G1 G2 ∧ RDs K G2 xs acc ∧ ∃ zs ρ3, lcD γ c δ vs (ds.drop (i + 1)) acc ρ2 = .ok zs ρ3 ∧ lcD γ c δ vs ds [] (wipeR ρ1 vs) = .ok zs ρ3, fun H' h => ⟨ds.length - (i + 1), by omega, rfl, hlt, h⟩, fun x H3 y => ?_⟩
      obtain ⟨G3, rp3, ge3, rd⟩ := yl x H3 y
      rw [List.drop_eq_getElem_cons hlt] at l1
      unfold lcD at l1
      refine hg _ G3 H3 (wipe σ vs) _ ρ2 x ds[i] _ rfl rp3 rd ?_
      cases q3 : γ ds[i] ρ2 with
      | bad => rw [q3] at l1; cases l1
      | exc c r => rw [q3] at l1; cases l1
      | ok o ρ4 =>
        rw [q3] at l1
        cases o with
        | bk => cases l1
        | ct => cases l1
        | rt _ => cases l1
        | nx =>
          intro σ4 H4 G4 rp4 ge4 hw
          dsimp only at l1
          have hw' : wipe σ4 vs = wipe σ vs := by rw [hw, wipe_idem]
          refine ⟨hw', _, G4, ρ4, rp4, ?_⟩
          cases q4 : c ρ4 with
          | bad => rw [q4] at l1; cases l1
          | exc c r => rw [q4] at l1; cases l1
          | ok b ρ5 =>
            rw [q4] at l1
            intro H5 G5 rp5 ge5
            cases b with
            | false =>
              rw [if_neg Bool.false_ne_true]
              dsimp only at l1
              have rp6 := Rp.rewiped rp5 hw'
              exact ⟨G5, _, xs, acc, rp6, ((ge2.trans ge3).trans ge4).trans ge5, rd2.mono ((ge3.trans ge4).trans ge5).rd, zs, ρ3, l1, l2⟩
            | true =>
              rw [if_pos rfl]
              dsimp only at l1
              refine ⟨_, G5, ρ5, rp5, ?_⟩
              cases q5 : δ ρ5 with
              | bad => rw [q5] at l1; cases l1
              | exc c r => rw [q5] at l1; cases l1
              | ok y ρ6 =>
                rw [q5] at l1
                intro H6 G6 rp6 ge6 v hv
                dsimp only at l1
                cases q6 : coerce y ρ6 with
                | bad => rw [q6] at l1; cases l1
                | exc c r => rw [q6] at l1; cases l1
                | ok z ρ7 =>
                  rw [q6] at l1
                  obtain ⟨G7, rp7, ge7, rd7⟩ := coerce_ok rp6 hv q6
                  dsimp only at l1
                  by_cases hl : acc.length < 1000000
                  · rw [if_pos hl] at l1
                    have gg : GE G2 G7 := (((ge3.trans ge4).trans ge5).trans ge6).trans ge7
                    refine ⟨xs, (rp7.pr (D, .lst xs) List.mem_cons_self).1, by rw [rd2.length, sizeLine_eq]; omega, G7, wipeR ρ7 vs, xs ++ [v], acc ++ [z], ?_, ge2.trans gg, (rd2.mono gg.rd).append (.one rd7), zs, ρ3, l1, l2⟩
                    exact Rp.rewiped (rp7.protWrite rfl hP ⟨xs, rfl⟩) hw'
                  · rw [if_neg hl] at l1; cases l1
    · have e1 : i = ds.length := by omega
      subst e1
      left
      refine ⟨h2, ?_⟩
      rw [List.drop_length] at l1
      unfold lcD at l1
      cases l1
      rw [l2] at p
      have rp3 := rp2.unprot
      have vk := Rp.made rp2 rd2 hP
      refine p H2 G2 (rp1.restored ge2 rp3) ge2 (.ref D) ?_
      obtain ⟨a, ea, z1, z2, z3, z4, z5⟩ := vk
      cases ea
      refine ⟨D, rfl, z1, z2, z3, z4, fun j dv h3 h4 => ?_⟩
      rcases restoreR_get h3 with ⟨d, rfl, _⟩ | ⟨k1, k2⟩
      · rfl
      · exact z5 j dv k1 (by rw [wipe_out k2]; exact h4)
theorem lc_read {K : PySem.W.Frag} {ι : DI} {g : TG} {γ : DG} {c : DB} {δ : DE} {vs : List Nat} (hg : CG K vs g γ) {σ : L2.St} {H : Hp} {Q : VK} (h : tD K cv W (dLc ι γ c δ vs) σ H Q) : tLc (tI K cv W ι) g (tB K cv W0 c) (tD K cv W0 δ) vs σ H Q := by
  obtain ⟨e, G, ρ, rp, p⟩ := h
  refine ⟨e, G, ρ, rp, ?_⟩
  unfold dLc at p
  cases q : ι ρ with
  | bad => rw [q] at p; exact p.elim
  | exc c r => rw [q] at p; exact p
  | ok ds ρ1 =>
    rw [q, R.bind_ok] at p
    exact fun H1 G1 rp1 ge1 J hJ D hD => lc_loop hg rp1 hJ (p.ge ge1) D hD
theorem de_lc {elt tg iter : Expr} {ifs : List Expr} {scope : Scope} (own : List (Str × Nat)) {pos : Pos} {ι : DI} {g : TG} {γ : DG} {c : DB} {δ : DE} (hc : X.calm = true) (hN : X.N.Nodup) (hi : DIx X cv W tg iter ι) (ok : BlkOk X.N X.env.scope scope own)
    (hg : ∀ (s : Shared) (H : Hp) (C : Addr) (cl : List (Str × Addr)) (fp : List Addr), PG (X.blk s H scope (compEnvC scope cl C X.env) fp) tg g) (hcg : CG X.K (own.map (·.2)) g γ)
    (ht : ∀ (s : Shared) (H : Hp) (C : Addr) (cl : List (Str × Addr)) (fp : List Addr), DTs (X.blk s H scope (compEnvC scope cl C X.env) fp) cv ifs c)
    (he : ∀ (s : Shared) (H : Hp) (C : Addr) (cl : List (Str × Addr)) (fp : List Addr), DEx (X.blk s H scope (compEnvC scope cl C X.env) fp) cv W0 elt δ) (hs : ∀ x, foldedSetIterable iter X.env x = pure x := by intro _; rfl) :
    DEx X cv W (.ListComp elt [⟨tg, iter, ifs, 0⟩] scope pos) (dLc ι γ c δ (own.map (·.2))) := PE_imp (pe_lc hc hN hi ok hg ht he hs) fun σ H Q h => lc_read hcg h
/-- name = [..] -/
theorem ds_setLc {i : Nat} {y : Str} {py : Pos} {elt tg iter : Expr} {ifs : List Expr} {scope : Scope} (own : List (Str × Nat)) {pos spos : Pos} {ι : DI} {g : TG} {γ : DG} {c : DB} {δ : DE} (hc : X.calm = true) (hN : X.N.Nodup) (hyl : X.env.scope.names.lookup y = some .local)
    (hsw : swapsWith (.ListComp elt [⟨tg, iter, ifs, 0⟩] scope pos) (some (.Name y py)) spos.line X.env = pure true) (hi : DIx X cv W tg iter ι) (ok : BlkOk X.N X.env.scope scope own)
    (hg : ∀ (s : Shared) (H : Hp) (C : Addr) (cl : List (Str × Addr)) (fp : List Addr), PG (X.blk s H scope (compEnvC scope cl C X.env) fp) tg g) (hcg : CG X.K (own.map (·.2)) g γ)
    (ht : ∀ (s : Shared) (H : Hp) (C : Addr) (cl : List (Str × Addr)) (fp : List Addr), DTs (X.blk s H scope (compEnvC scope cl C X.env) fp) cv ifs c)
    (he : ∀ (s : Shared) (H : Hp) (C : Addr) (cl : List (Str × Addr)) (fp : List Addr), DEx (X.blk s H scope (compEnvC scope cl C X.env) fp) cv W0 elt δ) (hy : X.N[i]? = some y := by rfl) (hs : ∀ x, foldedSetIterable iter X.env x = pure x := by intro _; rfl) :
    DSx X cv W (.Assign [.Name y py] (.ListComp elt [⟨tg, iter, ifs, 0⟩] scope pos) spos) (dSet i (dLc ι γ c δ (own.map (·.2)))) := PS_imp (ps_setLc hc hN hy hyl hsw hi ok hg ht he hs) fun D σ H ⟨e, G, ρ, rp, p⟩ =>
  lc_read hcg (tD_post rp p fun x ρ1 v H1 G1 rp1 _ hv p1 => putV_ok rp1 hv p1 fun _ _ _ _ z => z)
end
end DL
end

section
set_option Elab.async false
set_option linter.all false
set_option maxRecDepth 100000
set_option maxHeartbeats 1000000
namespace DL
open PySem PySem.Spec PyProof.Rows L2
variable [Tbl]
/-! ### subscripts, slices -/
section
variable {X : Cx} {cv : Str → Value} {W : WX}
theorem atI_rds {K : PySem.W.Frag} {G : Hp} {xs : List V} {ds : List PyData} {i : Int} {d : PyData} (r : RDs K G xs ds) (h : atI ds i = some d) : ∃ v, atI xs i = some v ∧ RD K G v d := by
  unfold atI at h ⊢
  rw [r.length]
  cases q : ixN ds.length i with
  | none => rw [q] at h; cases h
  | some j =>
    rw [q] at h
    obtain ⟨v, h1, h2⟩ := r.get h
    exact ⟨v, h1, h2⟩
theorem de_ix {a b : Expr} {δ ε : DE} {pos : Pos} (ha : DEx X cv W a δ) (hb : DEx X cv W b ε) (hs : PlainIx b := by exact fun _ _ => rfl) : DEx X cv W (.Subscript a b pos) (dBin ixP δ ε) := PE_imp (pe_ix ix_seq ha hb hs) fun σ H Q ⟨e, G, ρ, rp, p⟩ => by
  refine tD_two (f := fun x y ρ2 => match peek ρ2 x, peek ρ2 y with
    | some a, some b => ofO (ixP a b) ρ2
    | _, _ => .bad) rp p fun v u x y H2 G2 ρ2 rp2 ge2 hx hy p2 => ?_
  split at p2
  · rename_i a b q1 q2
    cases q3 : ixP a b with
    | none => rw [q3] at p2; exact p2.elim
    | some c =>
      rw [q3] at p2
      have pa := peek_ok rp2 hx q1
      have pb := peek_ok rp2 hy q2
      unfold ixP at q3
      split at q3
      · rename_i xs i
        obtain ⟨l, vs, rfl, h1, r1⟩ := pk_list rp2.le pa
        have := pk_int pb; subst this
        cases q4 : atI xs i with
        | none => rw [q4] at q3; cases q3
        | some d =>
          rw [q4] at q3; cases q3
          obtain ⟨w, h2, rd⟩ := atI_rds r1 q4
          exact .inl ⟨l, vs, i, w, rfl, rfl, h1, h2, p2 H2 G2 rp2 (GE.refl G2) w rd⟩
      · rename_i xs i
        obtain ⟨l, vs, rfl, h1, g1, r1⟩ := pk_tup rp2.le pa
        have := pk_int pb; subst this
        cases q4 : atI xs i with
        | none => rw [q4] at q3; cases q3
        | some d =>
          rw [q4] at q3; cases q3
          obtain ⟨w, h2, rd⟩ := atI_rds r1 q4
          exact .inr (.inl ⟨l, vs, i, w, rfl, rfl, h1, h2, p2 H2 G2 rp2 (GE.refl G2) w rd⟩)
      · rename_i z i
        have := pk_int pb; subst this
        have := pk_str pa; subst this
        split at q3
        · rename_i hz
          cases q4 : atI z.cps.toList i with
          | none => rw [q4] at q3; cases q3
          | some cc =>
            rw [q4] at q3; cases q3
            exact .inr (.inr ⟨z, i, cc, rfl, rfl, lim_line hz, q4, p2 H2 G2 rp2 (GE.refl G2) _ (.str _)⟩)
        · cases q3
      · cases q3
  · exact p2.elim
end
def cutD (xs : List PyData) (lo hi : Option Int) : List PyData := (xs.drop (HT.sIx xs.length 0 lo)).take (HT.sIx xs.length xs.length hi - HT.sIx xs.length 0 lo)
def slP : PyData → Option Int → Option Int → Option DV
  | .list xs, lo, hi => some (.ow (.lst (cutD xs lo hi)))
  | .tuple xs, lo, hi => some (.sh (.tuple (cutD xs lo hi)))
  | .str z, lo, hi => if z.length ≤ 1000000 then some (.sh (.str (Txt.slice z lo hi))) else none
  | _, _, _ => none
/-- a part of a slice -/
abbrev DP := Rho → R (Option Int)
def pNone : DP := fun ρ => .ok none ρ
def pSome (δ : DE) : DP := fun ρ => (δ ρ).bind fun x ρ1 => match peek ρ1 x with
  | some (.int i) => .ok (some i) ρ1
  | _ => .bad
def dSl (δ : DE) (lo hi : DP) : DE := fun ρ => (δ ρ).bind fun x ρ1 => (lo ρ1).bind fun l ρ2 => (hi ρ2).bind fun u ρ3 => match peek ρ3 (keep x) with
  | some a => ofO (slP a l u) ρ3
  | none => .bad
def tP (K : PySem.W.Frag) (cv : Str → Value) (W : WX) (π : DP) : TO := fun σ H Q => ∃ e G ρ, Rp K e G H σ ρ ∧ Post K cv W e G σ (π ρ) fun o ρ' G' H' => Q o H'
theorem PO_imp {X : Cx} {e : Option Expr} {t t' : TO} (h : PO X e t) (i : ∀ σ H Q, t' σ H Q → t σ H Q) : PO X e t' := ⟨fun pins s σ H Q I q => h.run pins s σ H Q I (i σ H Q q)⟩
section
variable {X : Cx} {cv : Str → Value} {W : WX}
theorem dp_none : PO X none (tP X.K cv W pNone) := PO_imp po_none fun σ H Q ⟨e, G, ρ, rp, p⟩ => p H G rp (GE.refl G)
theorem dp_some {a : Expr} {δ : DE} (ha : DEx X cv W a δ) : PO X (some a) (tP X.K cv W (pSome δ)) := PO_imp (po_some ha) fun σ H Q ⟨e, G, ρ, rp, p⟩ => by
  refine ⟨e, G, ρ, rp, Post.bind p fun x ρ1 G1 H1 rp1 ge1 p1 v hv => ?_⟩
  split at p1
  · rename_i i q
    exact ⟨i, pk_int (peek_ok rp1 hv q), p1 H1 G1 rp1 (GE.refl G1)⟩
  · exact p1.elim
theorem cut_rds {K : PySem.W.Frag} {G : Hp} {xs : List V} {ds : List PyData} {lo hi : Option Int} (r : RDs K G xs ds) : RDs K G (cutV xs lo hi) (cutD ds lo hi) := by
  unfold cutV cutD
  rw [r.length]
  exact (r.drop _).take _
theorem cutD_whole {ds : List PyData} {lo hi : Option Int} (h : HT.sIx ds.length 0 lo = 0 ∧ HT.sIx ds.length ds.length hi = ds.length) : cutD ds lo hi = ds := by
  unfold cutD
  rw [h.1, h.2]
  simp
theorem de_sl {a : Expr} {lo hi : Option Expr} {δ : DE} {l h : DP} {p2 pos : Pos} (ha : DEx X cv W a δ) (hl : PO X lo (tP X.K cv W l)) (hh : PO X hi (tP X.K cv W h)) : DEx X cv W (.Subscript a (.Slice lo hi none p2) pos) (dSl δ l h) :=
  PE_imp (pe_slice ((sl_list.or sl_tupA).or C8.sl_txt) ha hl hh) fun σ H Q ⟨e, G, ρ, rp, p⟩ => by
  refine ⟨e, G, ρ, rp, Post.bind p fun x ρ1 G1 H1 rp1 ge1 p1 v hv => ?_⟩
  obtain ⟨G1', rp1', ge1', hv'⟩ := keep_ok rp1 hv
  have hk := keep_kept x (vok_notmu hv)
  refine ⟨e, G1', ρ1, rp1', (Post.ge p1 ge1').bind fun lo' ρ2 G2 H2 rp2 ge2 p2 => ?_⟩
  refine ⟨e, G2, ρ2, rp2, Post.bind p2 fun hi' ρ3 G3 H3 rp3 ge3 p3 => ?_⟩
  have hv3 := hv'.later (e' := e) (H' := H3) (ρ' := ρ3) (ge2.trans ge3).rd hk
  cases q1 : peek ρ3 (keep x) with
  | none => rw [q1] at p3; exact p3.elim
  | some d =>
    rw [q1] at p3
    dsimp only at p3
    have pa := peek_ok rp3 hv3 q1
    cases q2 : slP d lo' hi' with
    | none => rw [q2] at p3; exact p3.elim
    | some c =>
      rw [q2] at p3
      unfold slP at q2
      split at q2
      · cases q2
        obtain ⟨l, vs, rfl, h1, r1⟩ := pk_list rp3.le pa
        refine .inl (.inl ⟨l, vs, rfl, h1, fun q hq => ?_⟩)
        obtain ⟨rp4, hv4⟩ := rp3.newOwn (o := .lst (cutV vs lo' hi')) (c := .lst _) hq ⟨_, upd_same, cut_rds r1⟩
        exact p3 _ _ rp4 (GE.refl _) _ hv4
      · cases q2
        obtain ⟨l, vs, rfl, h1, g1, r1⟩ := pk_tup rp3.le pa
        refine .inl (.inr ⟨l, vs, rfl, h1, fun hw => ?_, fun hw q hq => ?_⟩)
        · rw [r1.length] at hw
          exact p3 H3 G3 rp3 (GE.refl G3) _ (by rw [cutD_whole hw]; exact .tup g1 r1)
        · have ge4 := ge_lay (o := HO.tup (cutV vs lo' hi')) rp3 hq
          exact p3 _ _ (rp3.lay hq rfl) ge4 _ (.tup upd_same ((cut_rds r1).mono ge4.rd))
      · split at q2
        · rename_i hz
          cases q2
          exact .inr ⟨_, pk_str pa, lim_line hz, p3 H3 G3 rp3 (GE.refl G3) _ (.str _)⟩
        · cases q2
      · cases q2
end
/-! ### built-in functions of data -/
def dB (g : List PyData → Option DV) (δ : DA) : DE := fun ρ => (δ ρ).bind fun xs ρ1 => match peekAll ρ1 xs with
  | some ds => ofO (g ds) ρ1
  | none => .bad
def Pks (K : PySem.W.Frag) (G H : Hp) : List V → List PyData → Prop
  | [], [] => True
  | v :: vs, d :: ds => Pk K G H v d ∧ Pks K G H vs ds
  | _, _ => False
theorem peekAll_ok {K : PySem.W.Frag} {e : Ent} {G H : Hp} {σ : L2.St} {ρ : Rho} (rp : Rp K e G H σ ρ) : ∀ {vs : List V} {xs : List DV} {ds : List PyData}, VOks K e G H σ ρ vs xs → peekAll ρ xs = some ds → Pks K G H vs ds
  | [], [], ds, _, h => by cases h; trivial
  | v :: vs, x :: xs, ds, ⟨h1, _, h3⟩, h => by
    unfold peekAll at h
    cases q : peek ρ x with
    | none => rw [q] at h; cases h
    | some d =>
      rw [q] at h
      cases q2 : peekAll ρ xs with
      | none => rw [q2] at h; cases h
      | some ds2 =>
        rw [q2] at h
        have h : some (d :: ds2) = some ds := h
        cases h
        exact ⟨peek_ok rp h1 q, peekAll_ok rp h3 q2⟩
  | [], _ :: _, _, h, _ => h.elim
  | _ :: _, [], _, h, _ => h.elim
def CallD (X : Cx) (f : Value) (g : List PyData → Option DV) : Prop :=
  ∃ r, CallR X f r ∧ ∀ (e : Ent) (G H : Hp) (σ : L2.St) (ρ : Rho) (vs : List V) (ds : List PyData) (c : DV) (Q : VK), Rp X.K e G H σ ρ → Pks X.K G H vs ds → g ds = some c →
    (∀ v H' G', Rp X.K e G' H' σ ρ → GE G G' → VOk X.K e G' H' σ ρ v c → Q v H') → r vs H Q
section
variable {X : Cx} {cv : Str → Value} {W : WX}
theorem dB_read {K : PySem.W.Frag} {g : List PyData → Option DV} {δ : DA} {σ : L2.St} {H : Hp} {Q : VK} {r : List V → Hp → VK → Prop} (hg : ∀ (e : Ent) (G H : Hp) (σ : L2.St) (ρ : Rho) (vs : List V) (ds : List PyData) (c : DV) (Q : VK), Rp K e G H σ ρ → Pks K G H vs ds → g ds = some c →
    (∀ v H' G', Rp K e G' H' σ ρ → GE G G' → VOk K e G' H' σ ρ v c → Q v H') → r vs H Q) (h : tD K cv W (dB g δ) σ H Q) : tA K cv W δ σ H fun vs H1 => r vs H1 Q := by
  obtain ⟨e, G, ρ, rp, p⟩ := h
  refine ⟨e, G, ρ, rp, Post.bind p fun xs ρ1 G1 H1 rp1 ge1 p1 vs hvs => ?_⟩
  cases q : peekAll ρ1 xs with
  | none => rw [q] at p1; exact p1.elim
  | some ds =>
    rw [q] at p1
    dsimp only at p1
    cases q2 : g ds with
    | none => rw [q2] at p1; exact p1.elim
    | some c =>
      rw [q2] at p1
      exact hg e G1 H1 σ ρ1 vs ds c Q rp1 (peekAll_ok rp1 hvs q) q2 fun v H' G' rp' ge' hv => p1 H' G' rp' ge' v hv
theorem de_B {id : String} {x : Str} {a : Expr} {es : List Expr} {g : List PyData → Option DV} {δ : DA} {p pos : Pos} (hd : CallD X (.builtin id) g) (hm : X.mg x = none) (hv : bootBuiltins x = some (.builtin id)) (ha : DAx X cv W (a :: es) δ) (hg : Gl X x := by rfl) (hn : x ≠ "__name__" := by decide) (hdb : (x == ("__debug__" : Str)) = false := by decide)
    (he : starEach (a :: es) X.env = (false, eval a X.env) :: starEach es X.env := by rfl) (hpl : (backTo pos (starEach es X.env)).any (·.1) = false := by rfl) : DEx X cv W (.Call (.Name x p) (a :: es) [] pos) (dB g δ) := by
  obtain ⟨r, hr, h⟩ := hd
  exact PE_imp (pe_callB hr hg hm hv ha hn hdb he hpl) fun σ H Q q => dB_read h q
theorem de_Ty {T : String} {x : Str} {a : Expr} {es : List Expr} {g : List PyData → Option DV} {δ : DA} {p pos : Pos} (hd : CallD X (.type T) g) (hm : X.mg x = none) (hv : bootBuiltins x = some (.type T)) (ha : DAx X cv W (a :: es) δ) (hg : Gl X x := by rfl) (hn : x ≠ "__name__" := by decide) (hdb : (x == ("__debug__" : Str)) = false := by decide)
    (he : starEach (a :: es) X.env = (false, eval a X.env) :: starEach es X.env := by rfl) (hpl : (backTo pos (starEach es X.env)).any (·.1) = false := by rfl) : DEx X cv W (.Call (.Name x p) (a :: es) [] pos) (dB g δ) := by
  obtain ⟨r, hr, h⟩ := hd
  exact PE_imp (pe_callTy hr hg hm hv ha hn hdb he hpl) fun σ H Q q => dB_read h q
theorem pks1 {K : PySem.W.Frag} {G H : Hp} {vs : List V} {d : PyData} (h : Pks K G H vs [d]) : ∃ v, vs = [v] ∧ Pk K G H v d := by
  match vs, h with
  | [v], ⟨h, _⟩ => exact ⟨v, rfl, h⟩
  | [], h => exact h.elim
  | _ :: _ :: _, ⟨_, h⟩ => exact h.elim
theorem pks2 {K : PySem.W.Frag} {G H : Hp} {vs : List V} {d b : PyData} (h : Pks K G H vs [d, b]) : ∃ v u, vs = [v, u] ∧ Pk K G H v d ∧ Pk K G H u b := by
  match vs, h with
  | [v, u], ⟨h, h2, _⟩ => exact ⟨v, u, rfl, h, h2⟩
  | [], h => exact h.elim
  | [_], ⟨_, h⟩ => exact h.elim
  | _ :: _ :: _ :: _, ⟨_, _, h⟩ => exact h.elim
def lenP : List PyData → Option DV
  | [.str z] => if z.length ≤ 1000000 then some (.sh (.int z.length)) else none
  | [.list ds] => some (.sh (.int ds.length))
  | [.tuple ds] => some (.sh (.int ds.length))
  | _ => none
theorem cd_len : CallD X (.builtin "len") lenP := ⟨_, call_len, fun e G H σ ρ vs ds c Q rp pk h k => by
  unfold lenP at h
  split at h
  · split at h
    · rename_i z hz
      cases h
      obtain ⟨v, rfl, p⟩ := pks1 pk
      have := pk_str p; subst this
      exact ⟨_, z.length, rfl, ⟨lim_line hz, rfl⟩, k _ H G rp (GE.refl G) (.int _)⟩
    · cases h
  · cases h
    obtain ⟨v, rfl, p⟩ := pks1 pk
    obtain ⟨l, xs, rfl, h1, r⟩ := pk_list rp.le p
    refine ⟨_, _, rfl, .inl ⟨xs, h1, rfl⟩, ?_⟩
    rw [r.length]
    exact k _ H G rp (GE.refl G) (.int _)
  · cases h
    obtain ⟨v, rfl, p⟩ := pks1 pk
    obtain ⟨l, xs, rfl, h1, _, r⟩ := pk_tup rp.le p
    refine ⟨_, _, rfl, .inr ⟨xs, h1, rfl⟩, ?_⟩
    rw [r.length]
    exact k _ H G rp (GE.refl G) (.int _)
  · cases h⟩
def absP : List PyData → Option DV
  | [.int i] => some (.sh (.int (if i < 0 then -i else i)))
  | _ => none
theorem cd_abs : CallD X (.builtin "abs") absP := ⟨_, call_abs, fun e G H σ ρ vs ds c Q rp pk h k => by
  unfold absP at h
  split at h
  · cases h
    obtain ⟨v, rfl, p⟩ := pks1 pk
    have := pk_int p; subst this
    exact ⟨_, rfl, k _ H G rp (GE.refl G) (.int _)⟩
  · cases h⟩
def intP : List PyData → Option DV
  | [.int i] => some (.sh (.int i))
  | [.bool b] => some (.sh (.int (if b then 1 else 0)))
  | _ => none
theorem cd_int : CallD X (.type "int") intP := ⟨_, call_int1, fun e G H σ ρ vs ds c Q rp pk h k => by
  unfold intP at h
  split at h
  · cases h
    obtain ⟨v, rfl, p⟩ := pks1 pk
    have := pk_int p; subst this
    exact .inl ⟨_, rfl, k _ H G rp (GE.refl G) (.int _)⟩
  · cases h
    obtain ⟨v, rfl, p⟩ := pks1 pk
    have := bl_of p; subst this
    exact .inr ⟨_, rfl, k _ H G rp (GE.refl G) (.int _)⟩
  · cases h⟩
def maxP : List PyData → Option DV
  | [.int i, .int j] => some (.sh (.int (if j > i then j else i)))
  | _ => none
theorem cd_max (hc : X.calm = true) : CallD X (.builtin "max") maxP := ⟨_, call_max2 hc, fun e G H σ ρ vs ds c Q rp pk h k => by
  unfold maxP at h
  split at h
  · cases h
    obtain ⟨v, u, rfl, p, q⟩ := pks2 pk
    have := pk_int p; subst this
    have := pk_int q; subst this
    exact ⟨_, _, rfl, k _ H G rp (GE.refl G) (.int _)⟩
  · cases h⟩
def minP : List PyData → Option DV
  | [.int i, .int j] => some (.sh (.int (if j < i then j else i)))
  | _ => none
theorem cd_min (hc : X.calm = true) : CallD X (.builtin "min") minP := ⟨_, call_min2 hc, fun e G H σ ρ vs ds c Q rp pk h k => by
  unfold minP at h
  split at h
  · cases h
    obtain ⟨v, u, rfl, p, q⟩ := pks2 pk
    have := pk_int p; subst this
    have := pk_int q; subst this
    exact ⟨_, _, rfl, k _ H G rp (GE.refl G) (.int _)⟩
  · cases h⟩
def bools : List PyData → Option (List Bool)
  | [] => some []
  | .bool b :: r => (bools r).map fun bs => b :: bs
  | _ => none
theorem bools_rds {K : PySem.W.Frag} {G : Hp} : ∀ {vs : List V} {ds : List PyData} {bs : List Bool}, RDs K G vs ds → bools ds = some bs → vs = bs.map V.bl
  | _, _, bs, .nil, h => by cases h; rfl
  | _, _, bs, .cons (d := d) (ds := ds) r t, h => by
    cases r with
    | bl b =>
      cases q : bools ds with
      | none => simp [bools, q] at h
      | some bs' =>
        simp [bools, q] at h
        subst h
        simp [bools_rds t q]
    | _ => simp [bools] at h
def allP : List PyData → Option DV
  | [.list ds] => (bools ds).map fun bs => .sh (.bool (bs.all id))
  | _ => none
theorem cd_all (hc : X.calm = true) : CallD X (.builtin "all") allP := ⟨_, cr_all hc, fun e G H σ ρ vs ds c Q rp pk h k => by
  unfold allP at h
  split at h
  · rename_i ds
    cases q : bools ds with
    | none => rw [q] at h; cases h
    | some bs =>
      rw [q] at h; cases h
      obtain ⟨v, rfl, p⟩ := pks1 pk
      obtain ⟨l, xs, rfl, h1, r⟩ := pk_list rp.le p
      have := bools_rds r q; subst this
      exact ⟨l, bs, rfl, h1, k _ H G rp (GE.refl G) (.bl _)⟩
  · cases h⟩
def anyP : List PyData → Option DV
  | [.list ds] => (bools ds).map fun bs => .sh (.bool (bs.any id))
  | _ => none
theorem cd_any (hc : X.calm = true) : CallD X (.builtin "any") anyP := ⟨_, cr_any hc, fun e G H σ ρ vs ds c Q rp pk h k => by
  unfold anyP at h
  split at h
  · rename_i ds
    cases q : bools ds with
    | none => rw [q] at h; cases h
    | some bs =>
      rw [q] at h; cases h
      obtain ⟨v, rfl, p⟩ := pks1 pk
      obtain ⟨l, xs, rfl, h1, r⟩ := pk_list rp.le p
      have := bools_rds r q; subst this
      exact ⟨l, bs, rfl, h1, k _ H G rp (GE.refl G) (.bl _)⟩
  · cases h⟩
def tupleP : List PyData → Option DV
  | [.list ds] => some (.sh (.tuple ds))
  | [.tuple ds] => some (.sh (.tuple ds))
  | _ => none
theorem cd_tuple : CallD X (.type "tuple") tupleP := ⟨_, call_tuple_of, fun e G H σ ρ vs ds c Q rp pk h k => by
  unfold tupleP at h
  split at h
  · cases h
    obtain ⟨v, rfl, p⟩ := pks1 pk
    obtain ⟨l, xs, rfl, h1, r⟩ := pk_list rp.le p
    refine ⟨l, xs, rfl, .inl ⟨h1, fun q hq => ?_⟩⟩
    have ge4 := ge_lay (o := HO.tup xs) rp hq
    exact k _ _ _ (rp.lay hq rfl) ge4 (.tup upd_same (r.mono ge4.rd))
  · cases h
    obtain ⟨v, rfl, p⟩ := pks1 pk
    obtain ⟨l, xs, rfl, h1, g1, r⟩ := pk_tup rp.le p
    exact ⟨l, xs, rfl, .inr ⟨h1, k _ H G rp (GE.refl G) (.tup g1 r)⟩⟩
  · cases h⟩
def listP : List PyData → Option DV
  | [.list ds] => some (.ow (.lst ds))
  | [.tuple ds] => some (.ow (.lst ds))
  | _ => none
theorem cd_list : CallD X (.type "list") listP := ⟨_, call_list_of, fun e G H σ ρ vs ds c Q rp pk h k => by
  unfold listP at h
  split at h
  · cases h
    obtain ⟨v, rfl, p⟩ := pks1 pk
    obtain ⟨l, xs, rfl, h1, r⟩ := pk_list rp.le p
    refine ⟨l, xs, rfl, .inl h1, fun q hq => ?_⟩
    obtain ⟨rp4, hv4⟩ := rp.newOwn (o := .lst xs) (c := .lst _) hq ⟨_, upd_same, r⟩
    exact k _ _ _ rp4 (GE.refl _) hv4
  · cases h
    obtain ⟨v, rfl, p⟩ := pks1 pk
    obtain ⟨l, xs, rfl, h1, g1, r⟩ := pk_tup rp.le p
    refine ⟨l, xs, rfl, .inr h1, fun q hq => ?_⟩
    obtain ⟨rp4, hv4⟩ := rp.newOwn (o := .lst xs) (c := .lst _) hq ⟨_, upd_same, r⟩
    exact k _ _ _ rp4 (GE.refl _) hv4
  · cases h⟩
/-! ### isinstance of a built-in class -/
def tyName : PyData → String
  | .none => "NoneType"
  | .bool _ => "bool"
  | .int _ => "int"
  | .str _ => "str"
  | .list _ => "list"
  | .tuple _ => "tuple"
  | .dict _ => "dict"
def isDict : PyData → Bool
  | .dict _ => true
  | _ => false
def dIsi (T : String) (δ : DE) : DE := fun ρ => (δ ρ).bind fun x ρ1 => match peek ρ1 (keep x) with
  | some d => match (if isDict d = true then none else kitB (tyName d) T) with
    | some b => .ok (.sh (.bool b)) ρ1
    | none => .bad
  | none => .bad
theorem tyX_of {K : PySem.W.Frag} {G H : Hp} {v : V} {d : PyData} (g : GE G H) (nd : isDict d = false) (h : Pk K G H v d) : TyX K H v (.type (tyName d)) := by
  rcases h with h | ⟨a, c, rfl, o, rfl⟩
  · cases h with
    | non => exact .base .non
    | bl b => exact .base (.bl b)
    | int i => exact .base (.int i)
    | str x => exact .base (.str x)
    | lst h r =>
      rcases g.rd.sqL h with (z | ⟨ob, z⟩) | ⟨o, its, n, hk, hcl, _⟩
      · exact .base (.lst z)
      · exact .base (.frz z)
      · exact .kList hk hcl
    | tup h r => exact .base (.tup (g _ _ h))
    | dK h r => cases nd
    | dT h r => cases nd
  · cases c with
    | lst ds => obtain ⟨xs, z, _⟩ := o; exact .base (.lst z)
    | dic t kvs =>
      rcases o with ⟨_, es, ds, z, _⟩ | ⟨_, es, ds, z, _⟩
      · exact .base (.dK z)
      · exact .base (.dT z)
theorem de_isi {T : String} {t : Str} {a : Expr} {δ : DE} {p p2 pos : Pos} (hm : X.mg "isinstance" = none) (hmt : X.mg t = none) (hvt : bootBuiltins t = some (.type T)) (ha : DEx X cv W a δ) (hg : Gl X "isinstance" := by rfl) (hgt : Gl X t := by rfl) (hnt : t ≠ "__name__" := by decide) (hdt : (t == ("__debug__" : Str)) = false := by decide)
    (he : starEach (a :: [.Name t p2]) X.env = (false, eval a X.env) :: starEach [.Name t p2] X.env := by rfl) (he2 : starEach (.Name t p2 :: []) X.env = (false, eval (.Name t p2) X.env) :: starEach [] X.env := by rfl) (hpl : (backTo pos (starEach [.Name t p2] X.env)).any (·.1) = false := by rfl) :
    DEx X cv W (.Call (.Name "isinstance" p) [a, .Name t p2] [] pos) (dIsi T δ) := by
  have ht : PE X (.Name t p2) (tC (.ty T)) := pe_bltn hgt hmt hvt rfl hnt hdt
  refine PE_imp (pe_callB call_isi hg hm boot_isinstance (pa_cons ha (pa_cons ht pa_nil he2) he) (by decide) (by decide) he hpl) fun σ H Q ⟨e, G, ρ, rp, p⟩ => ?_
  refine ⟨e, G, ρ, rp, Post.bind p fun x ρ1 G1 H1 rp1 ge1 p1 v hv => ?_⟩
  obtain ⟨G1', rp1', ge1', hv'⟩ := keep_ok rp1 hv
  have p1 := Post.ge p1 ge1'
  cases q : peek ρ1 (keep x) with
  | none => rw [q] at p1; exact p1.elim
  | some d =>
    rw [q] at p1
    dsimp only at p1
    by_cases hd : isDict d = true
    · rw [if_pos hd] at p1; exact p1.elim
    rw [if_neg hd] at p1
    cases q2 : kitB (tyName d) T with
    | none => rw [q2] at p1; exact p1.elim
    | some b =>
      rw [q2] at p1
      exact ⟨v, .ty T, _, _, b, rfl, .ty T, tyX_of rp1'.le (by simpa using hd) (peek_ok rp1' hv' q), kit_ty q2, p1 H1 G1' rp1' (GE.refl _) _ (.bl b)⟩
end
end DL
end

section
set_option Elab.async false
set_option linter.all false
set_option maxRecDepth 100000
set_option maxHeartbeats 1000000
namespace DL
open PySem PySem.Spec PyProof.Rows L2
variable [Tbl]
/-! ### methods of texts -/
def isStrP : PyData → Bool
  | .str _ => true
  | _ => false
def dM1 (g : PyData → PyData → Option DV) (δ ε : DE) : DE := fun ρ => (δ ρ).bind fun x ρ1 => match peek ρ1 (keep x) with
  | some (.str z) => (ε ρ1).bind fun y ρ2 => match peek ρ2 y with
    | some b => ofO (g (.str z) b) ρ2
    | none => .bad
  | _ => .bad
def MtD1 (X : Cx) (id : String) (g : PyData → PyData → Option DV) : Prop :=
  ∃ r, MtR X id r ∧ ∀ (e : Ent) (G H : Hp) (σ : L2.St) (ρ : Rho) (z : Str) (y : V) (b : PyData) (c : DV) (Q : VK), Rp X.K e G H σ ρ → Pk X.K G H y b → g (.str z) b = some c →
    (∀ v H' G', Rp X.K e G' H' σ ρ → GE G G' → VOk X.K e G' H' σ ρ v c → Q v H') → r (.str z) [y] H Q
section
variable {X : Cx} {cv : Str → Value} {W : WX}
theorem de_m1 {id : String} {name : Str} {o a : Expr} {δ ε : DE} {g : PyData → PyData → Option DV} {apos pos : Pos} (slot : Slot "str" name id) (ty : typeOf (.builtin id) = pure (.type "method_descriptor")) (md : MtD1 X id g) (ho : DEx X cv W o δ) (ha : DEx X cv W a ε)
    (hs : starEach [a] X.env = [(false, eval a X.env)] := by rfl) (hbase : attributeBase o name X.env (eval o X.env) = eval o X.env := by rfl) (hline : (apos.endLine == pos.line) = true := by rfl) : DEx X cv W (.Call (.Attribute o name apos) [a] [] pos) (dM1 g δ ε) := by
  obtain ⟨r, hr, hg⟩ := md
  refine PE_imp (pe_m1 slot ty hr ho ha hs hbase hline) fun σ H Q ⟨e, G, ρ, rp, p⟩ => ?_
  refine ⟨e, G, ρ, rp, Post.bind p fun x ρ1 G1 H1 rp1 ge1 p1 v hv => ?_⟩
  obtain ⟨G1', rp1', ge1', hv'⟩ := keep_ok rp1 hv
  have p1 := Post.ge p1 ge1'
  split at p1
  · rename_i z q
    have := pk_str (peek_ok rp1' hv' q); subst this
    refine ⟨⟨z, rfl⟩, e, G1', ρ1, rp1', Post.bind p1 fun y ρ2 G2 H2 rp2 ge2 p2 u hu => ?_⟩
    cases q2 : peek ρ2 y with
    | none => rw [q2] at p2; exact p2.elim
    | some b =>
      rw [q2] at p2
      dsimp only at p2
      cases q3 : g (.str z) b with
      | none => rw [q3] at p2; exact p2.elim
      | some c =>
        rw [q3] at p2
        exact hg e G2 H2 σ ρ2 z u b c Q rp2 (peek_ok rp2 hu q2) q3 fun v' H' G' rp' ge' hv' => p2 H' G' rp' ge' v' hv'
  · exact p1.elim
def splitP : PyData → PyData → Option DV
  | .str a, .str b => if b.length ≠ 0 ∧ a.length ≤ 1000000 then some (.ow (.lst ((Txt.split a b).map .str))) else none
  | _, _ => none
theorem rds_strs {K : PySem.W.Frag} {G : Hp} : ∀ ys : List Str, RDs K G (ys.map V.str) (ys.map .str)
  | [] => .nil
  | y :: ys => .cons (.str y) (rds_strs ys)
theorem md_split : MtD1 X "str.split" splitP := ⟨_, mt_split, fun e G H σ ρ z y b c Q rp pb h k => by
  unfold splitP at h
  split at h
  · rename_i a b e1
    cases e1
    split at h
    · rename_i hz
      cases h
      have := pk_str pb; subst this
      refine ⟨z, b, rfl, rfl, by simpa using hz.1, by rw [sizeLine_eq]; omega, fun q hq => ?_⟩
      obtain ⟨rp4, hv4⟩ := rp.newOwn (o := .lst ((Txt.split z b).map V.str)) (c := .lst _) hq ⟨_, upd_same, rds_strs _⟩
      exact k _ _ _ rp4 (GE.refl _) hv4
    · cases h
  · cases h⟩
def strL : List PyData → Option (List Str)
  | [] => some []
  | .str z :: r => (strL r).map fun zs => z :: zs
  | _ => none
theorem strL_rds {K : PySem.W.Frag} {G : Hp} : ∀ {vs : List V} {ds : List PyData} {zs : List Str}, RDs K G vs ds → strL ds = some zs → vs = zs.map V.str
  | _, _, zs, .nil, h => by cases h; rfl
  | _, _, zs, .cons (d := d) (ds := ds) r t, h => by
    cases r with
    | str b =>
      cases q : strL ds with
      | none => simp [strL, q] at h
      | some zs' =>
        simp [strL, q] at h
        subst h
        simp [strL_rds t q]
    | _ => simp [strL] at h
def joinB (a : Str) (zs : List Str) : Option DV := if (zs.map (·.length)).sum + zs.length * a.length ≤ 16777216 then some (.sh (.str (Txt.join a zs))) else none
def joinP : PyData → PyData → Option DV
  | .str a, .list ds => (strL ds).bind (joinB a)
  | .str a, .tuple ds => (strL ds).bind (joinB a)
  | _, _ => none
theorem md_join : MtD1 X "str.join" joinP := ⟨_, mt_join, fun e G H σ ρ z y b c Q rp pb h k => by
  unfold joinP at h
  split at h
  · rename_i a ds e1
    cases e1
    obtain ⟨l, xs, rfl, h1, r⟩ := pk_list rp.le pb
    cases q : strL ds with
    | none => rw [q] at h; cases h
    | some zs =>
      rw [q] at h
      have := strL_rds r q; subst this
      have h : joinB z zs = some c := h
      unfold joinB at h
      split at h
      · rename_i hz
        cases h
        exact ⟨z, l, zs, rfl, rfl, .inl h1, hz, k _ H G rp (GE.refl G) (.str _)⟩
      · cases h
  · rename_i a ds e1
    cases e1
    obtain ⟨l, xs, rfl, h1, g1, r⟩ := pk_tup rp.le pb
    cases q : strL ds with
    | none => rw [q] at h; cases h
    | some zs =>
      rw [q] at h
      have := strL_rds r q; subst this
      have h : joinB z zs = some c := h
      unfold joinB at h
      split at h
      · rename_i hz
        cases h
        exact ⟨z, l, zs, rfl, rfl, .inr h1, hz, k _ H G rp (GE.refl G) (.str _)⟩
      · cases h
  · cases h⟩
def countP : PyData → PyData → Option DV
  | .str a, .str b => some (.sh (.int (Txt.count a b)))
  | _, _ => none
theorem md_count : MtD1 X "str.count" countP := ⟨_, mt_count, fun e G H σ ρ z y b c Q rp pb h k => by
  unfold countP at h
  split at h
  · rename_i a b e1
    cases e1
    cases h
    have := pk_str pb; subst this
    exact ⟨z, b, rfl, rfl, k _ H G rp (GE.refl G) (.int _)⟩
  · cases h⟩
end
/-! ### a slot's list is changed -/
def lstAt (ρ : Rho) (i : Nat) : Option (List PyData) := match ρ[i]? with
  | some (some (.ow (.lst ds))) => some ds
  | some (some (.mu (.lst ds))) => some ds
  | _ => none
def putL (ρ : Rho) (i : Nat) (ds : List PyData) : Rho := match ρ[i]? with
  | some (some (.ow _)) => ρ.set i (some (.ow (.lst ds)))
  | some (some (.mu _)) => ρ.set i (some (.mu (.lst ds)))
  | _ => ρ
/-- x.m(..), x the slot i -/
def dMut (i : Nat) (δ : DA) (m : List PyData → List PyData → Option (List PyData × PyData)) : DE := fun ρ => match lstAt ρ i with
  | none => .bad
  | some _ => (δ ρ).bind fun xs ρ1 => (coerceAll xs ρ1).bind fun ds ρ2 => match lstAt ρ2 i with
    | none => .bad
    | some c => match m c ds with
      | some (c', d) => .ok (.sh d) (putL ρ2 i c')
      | none => .bad
/-- a list's method by its data -/
def MutL (X : Cx) (id : String) (m : List PyData → List PyData → Option (List PyData × PyData)) : Prop :=
  ∃ r, MtR X id r ∧ ∀ (G H : Hp) (a : Addr) (us xs : List V) (c ds c' : List PyData) (d : PyData) (Q : VK), GE G H → H a = some (.lst us) → RDs X.K G us c → RDs X.K G xs ds → m c ds = some (c', d) →
    (∀ v us', RDs X.K G us' c' → RD X.K G v d → Q v (upd H a (.lst us'))) → r (.ref a) xs H Q
section
variable {K : PySem.W.Frag} {e : Ent} {G H : Hp} {σ : L2.St} {ρ : Rho}
theorem lstAt_own (rp : Rp K e G H σ ρ) {i : Nat} {c : List PyData} {v : V} (h : lstAt ρ i = some c) (hs : σ[i]? = some (some v)) : ∃ a us, v = .ref a ∧ H a = some (.lst us) ∧ RDs K G us c ∧ G a = none := by
  unfold lstAt at h
  split at h
  · rename_i ds q
    cases h
    obtain ⟨a, h1, h2, _, _, us, h3, r⟩ := rp.slot i v _ hs q
    exact ⟨a, us, h1, h3, r, h2⟩
  · rename_i ds q
    cases h
    obtain ⟨a, h1, h2, _, _, us, h3, r⟩ := rp.slot i v _ hs q
    exact ⟨a, us, h1, h3, r, h2⟩
  · cases h
theorem lstAt_has (rp : Rp K e G H σ ρ) {i : Nat} {c : List PyData} (h : lstAt ρ i = some c) : ∃ v, σ[i]? = some (some v) := by
  unfold lstAt at h
  split at h
  · rename_i ds q; exact rp.has i _ q
  · rename_i ds q; exact rp.has i _ q
  · cases h
theorem lstAt_put (rp : Rp K e G H σ ρ) {i : Nat} {c c' : List PyData} {a : Addr} {us' : List V} (h : lstAt ρ i = some c) (hs : σ[i]? = some (some (.ref a))) (r : RDs K G us' c') : Rp K e G (upd H a (.lst us')) σ (putL ρ i c') := by
  unfold lstAt at h
  unfold putL
  split at h
  · rename_i ds q
    rw [q]
    exact rp.write hs q (by simp [DV.oc?]) (.inl ⟨_, rfl, rfl⟩) ⟨us', upd_same, r⟩
  · rename_i ds q
    rw [q]
    exact rp.write hs q (by simp [DV.oc?]) (.inr ⟨_, rfl, rfl⟩) ⟨us', upd_same, r⟩
  · cases h
theorem dV_lst {i : Nat} {c : List PyData} (h : lstAt ρ i = some c) : dV i ρ = .ok (.bw i) ρ := by
  unfold lstAt at h
  unfold dV
  split at h
  · rename_i ds q; rw [q]
  · rename_i ds q; rw [q]
  · cases h
end
section
variable {X : Cx} {cv : Str → Value} {W : WX}
theorem de_mut {i : Nat} {id : String} {name : Str} {o a : Expr} {es : List Expr} {δ : DA} {m : List PyData → List PyData → Option (List PyData × PyData)} {apos cpos : Pos} (slot : Slot "list" name id) (hty : typeOf (.builtin id) = pure (.type "method_descriptor")) (md : MutL X id m) (ho : DEx X cv W o (dV i)) (ha : DAx X cv W (a :: es) δ)
    (hbase : attributeBase o name X.env (eval o X.env) = eval o X.env := by rfl)
    (hfew : ((backTo cpos (starEach (a :: es) X.env)).all (fun x => !x.1) && (backToKw cpos (keywordEach [] X.env)).all (fun x => x.1.isSome)
      && decide ((a :: es).length + ([] : List Keyword).length + (if ([] : List Keyword).isEmpty then 0 else 1) < 30)) = true := by rfl)
    (hline : (apos.endLine == cpos.line) = true := by rfl) (hs : starEach (a :: es) X.env = (false, eval a X.env) :: starEach es X.env := by rfl) (hplain : (backTo cpos (starEach es X.env)).any (·.1) = false := by rfl) :
    DEx X cv W (.Call (.Attribute o name apos) (a :: es) [] cpos) (dMut i δ m) := by
  obtain ⟨r, hr, hg⟩ := md
  refine PE_imp (pe_bm PySem.F.plainAttrs_list slot hty hr ho ha hbase hfew hline hs hplain) fun σ H Q ⟨e, G, ρ, rp, p⟩ => ?_
  unfold dMut at p
  cases q0 : lstAt ρ i with
  | none => rw [q0] at p; exact p.elim
  | some c0 =>
    rw [q0] at p
    dsimp only at p
    refine ⟨e, G, ρ, rp, ?_⟩
    rw [dV_lst q0]
    intro H1 G1 rp1 ge1 v hv
    have hv : σ[i]? = some (some v) := hv
    obtain ⟨a0, us0, rfl, h1, r1, _⟩ := lstAt_own rp1 q0 hv
    refine ⟨.inl ⟨rfl, us0, .inl (.inl h1)⟩, e, G1, ρ, rp1, Post.bind (Post.ge p ge1) fun xs ρ1 G2 H2 rp2 ge2 p2 vs hvs => ?_⟩
    refine post_coerceAll rp2 hvs p2 fun ds ρ2 G3 rp3 ge3 rd p3 => ?_
    cases q1 : lstAt ρ2 i with
    | none => rw [q1] at p3; exact p3.elim
    | some c =>
      rw [q1] at p3
      dsimp only at p3
      obtain ⟨a1, us, e1, h3, r3, _⟩ := lstAt_own rp3 q1 hv
      cases e1
      cases q2 : m c ds with
      | none => rw [q2] at p3; exact p3.elim
      | some cd =>
        obtain ⟨c', d⟩ := cd
        rw [q2] at p3
        exact hg G3 H2 a0 us vs c ds c' d Q rp3.le h3 r3 rd q2 fun v us' r' rd' => p3 _ G3 (lstAt_put rp3 q1 hv r') (GE.refl G3) v rd'
theorem de_mut0 {i : Nat} {id : String} {name : Str} {o : Expr} {m : List PyData → List PyData → Option (List PyData × PyData)} {apos cpos : Pos} (slot : Slot "list" name id) (hty : typeOf (.builtin id) = pure (.type "method_descriptor")) (md : MutL X id m) (ho : DEx X cv W o (dV i))
    (hbase : attributeBase o name X.env (eval o X.env) = eval o X.env := by rfl) (hline : (apos.endLine == cpos.line) = true := by rfl) : DEx X cv W (.Call (.Attribute o name apos) [] [] cpos) (dMut i dNil m) := by
  obtain ⟨r, hr, hg⟩ := md
  refine PE_imp (pe_bm0 PySem.F.plainAttrs_list slot hty hr ho hbase hline) fun σ H Q ⟨e, G, ρ, rp, p⟩ => ?_
  unfold dMut at p
  cases q0 : lstAt ρ i with
  | none => rw [q0] at p; exact p.elim
  | some c0 =>
    rw [q0] at p
    have p : Post X.K cv W e G σ (match lstAt ρ i with
      | none => R.bad
      | some c => match m c [] with
        | some (c', d) => .ok (.sh d) (putL ρ i c')
        | none => .bad) fun dv ρ' G' H' => ∀ v, VOk X.K e G' H' σ ρ' v dv → Q v H' := p
    rw [q0] at p
    dsimp only at p
    refine ⟨e, G, ρ, rp, ?_⟩
    rw [dV_lst q0]
    intro H1 G1 rp1 ge1 v hv
    have hv : σ[i]? = some (some v) := hv
    obtain ⟨a0, us0, rfl, h1, r1, _⟩ := lstAt_own rp1 q0 hv
    refine ⟨.inl ⟨rfl, us0, .inl (.inl h1)⟩, ?_⟩
    cases q2 : m c0 [] with
    | none => rw [q2] at p; exact p.elim
    | some cd =>
      obtain ⟨c', d⟩ := cd
      rw [q2] at p
      have p := p.ge ge1
      exact hg G1 H1 a0 us0 [] c0 [] c' d Q rp1.le h1 r1 .nil q2 fun v us' r' rd' => p _ G1 (lstAt_put rp1 q0 hv r') (GE.refl G1) v rd'
def appendM : List PyData → List PyData → Option (List PyData × PyData)
  | c, [d] => if c.length < 1000000 then some (c ++ [d], .none) else none
  | _, _ => none
theorem ml_append : MutL X "list.append" appendM := ⟨_, mt_append, fun G H a us xs c ds c' d Q le h r rd hm k => by
  unfold appendM at hm
  split at hm
  · split at hm
    · rename_i hl
      cases hm
      cases rd with
      | cons r1 t => cases t; exact ⟨a, us, _, rfl, rfl, h, by rw [r.length, sizeLine_eq]; omega, k .non _ (r.append (.one r1)) .non⟩
    · cases hm
  · cases hm⟩
def popAtM : List PyData → List PyData → Option (List PyData × PyData)
  | c, [.int i] => if 0 ≤ i ∧ i < c.length ∧ c.length ≤ 1000000 then (c[i.toNat]?).map fun d => (c.eraseIdx i.toNat, d) else none
  | _, _ => none
theorem ml_popAt : MutL X "list.pop" popAtM := ⟨_, mt_popAt, fun G H a us xs c ds c' d Q le h r rd hm k => by
  unfold popAtM at hm
  split at hm
  · rename_i i
    split at hm
    · rename_i hl
      cases q : c[i.toNat]? with
      | none => rw [q] at hm; cases hm
      | some d' =>
        rw [q] at hm; cases hm
        obtain ⟨v, hv, rdv⟩ := r.get q
        cases rd with
        | cons r1 t =>
          cases t
          cases r1
          refine ⟨a, us, i, i.toNat, v, rfl, rfl, h, by omega, by omega, ?_, hv, k v _ (r.eraseIdx _) rdv⟩
          rw [r.length]
          exact seqIndex_of hl.1 hl.2.1
    · cases hm
  · cases hm⟩
def popM : List PyData → List PyData → Option (List PyData × PyData)
  | c, [] => (c[c.length - 1]?).map fun d => (c.dropLast, d)
  | _, _ => none
theorem RDs.dropLast {K : PySem.W.Frag} {G : Hp} : ∀ {vs : List V} {ds : List PyData}, RDs K G vs ds → RDs K G vs.dropLast ds.dropLast
  | _, _, .nil => .nil
  | _, _, .cons _ .nil => .nil
  | _, _, .cons r (.cons r' t) => .cons r (RDs.dropLast (.cons r' t))
theorem ml_pop : MutL X "list.pop" popM := ⟨_, mt_pop, fun G H a us xs c ds c' d Q le h r rd hm k => by
  unfold popM at hm
  split at hm
  · cases q : c[c.length - 1]? with
    | none => rw [q] at hm; cases hm
    | some d' =>
      rw [q] at hm; cases hm
      obtain ⟨v, hv, rdv⟩ := r.get q
      cases rd
      exact ⟨a, us, v, rfl, rfl, h, by rw [r.length]; exact hv, k v _ r.dropLast rdv⟩
  · cases hm⟩
/-! ### x[k] = e, x the slot i (a list) -/
def dSetIx (i : Nat) (ι δ : DE) : DS := fun ρ => (δ ρ).bind fun x ρ1 => match lstAt ρ1 i with
  | none => .bad
  | some _ => (ι ρ1).bind fun y ρ2 => (coerce (keep x) ρ2).bind fun d ρ3 => match lstAt ρ3 i, peek ρ3 y with
    | some c, some (.int k) => match ixN c.length k with
      | some j => .ok .nx (putL ρ3 i (c.set j d))
      | none => .bad
    | _, _ => .bad
theorem ds_setIx {i : Nat} {o ix a : Expr} {ι δ : DE} {pos' pos : Pos} (ha : DEx X cv W a δ) (ho : DEx X cv W o (dV i)) (hi : DEx X cv W ix ι)
    (hgs : ∀ v, assign (.Subscript o ix pos') X.env v = (do
      let ov ← holding [v] (eval o X.env)
      let iv ← holding [v, ov] (eval ix X.env)
      standAt pos'
      holding [v, ov, iv] (setItem ov iv v)
      release [v, ov, iv] []) := by intro _; rfl) (hs : swapsWithSole [.Subscript o ix pos'] a pos.line X.env = pure false := by rfl) (hw : swappedStores [.Subscript o ix pos'] a X.env = pure none := by rfl)
    (h1 : (assignEach [.Subscript o ix pos'] X.env).map (·.2) = [assign (.Subscript o ix pos') X.env] := by rfl) : DSx X cv W (.Assign [.Subscript o ix pos'] a pos) (dSetIx i ι δ) := PS_imp (ps_asg ha (pg_sub ho hi set_list hgs) hs hw h1) fun D σ H ⟨e, G, ρ, rp, p⟩ =>
  tD_post rp p fun x ρ1 v H1 G1 rp1 _ hv p1 => by
    obtain ⟨G1', rp1', ge1', hv'⟩ := keep_ok rp1 hv
    have hk := keep_kept x (vok_notmu hv)
    have p1 := p1.ge ge1'
    cases q0 : lstAt ρ1 i with
    | none => rw [q0] at p1; exact p1.elim
    | some c0 =>
      rw [q0] at p1
      dsimp only at p1
      refine ⟨e, G1', ρ1, rp1', ?_⟩
      rw [dV_lst q0]
      intro H2 G2 rp2 ge2 w hw
      have hw : σ[i]? = some (some w) := hw
      refine tD_post rp2 (p1.ge ge2) fun y ρ2 u H3 G3 rp3 ge3 hu p3 => ?_
      have hv3 := hv'.later (e' := e) (H' := H3) (ρ' := ρ2) (ge2.trans ge3).rd hk
      cases q1 : coerce (keep x) ρ2 with
      | bad => rw [q1] at p3; exact p3.elim
      | exc c r => exact absurd q1 coerce_noexc
      | ok d ρ3 =>
        rw [q1, R.bind_ok] at p3
        obtain ⟨G4, rp4, ge4, rd⟩ := coerce_ok rp3 hv3 q1
        have p4 := p3.ge ge4
        split at p4
        · rename_i c k e2 e3
          obtain ⟨a0, us, rfl, h2, r2, _⟩ := lstAt_own rp4 e2 hw
          cases q2 : ixN c.length k with
          | none => rw [q2] at p4; exact p4.elim
          | some j =>
            rw [q2] at p4
            rw [(coerce_peek q1).2 y] at e3
            have := pk_int (peek_ok rp3 hu e3); subst this
            exact ⟨a0, us, k, j, rfl, rfl, h2, by rw [r2.length]; exact q2, p4 σ _ G4 (lstAt_put rp4 e2 hw (r2.set rd j)) (GE.refl G4)⟩
        · exact p4.elim
end
end DL
end

section
set_option Elab.async false
set_option linter.all false
set_option maxRecDepth 100000
set_option maxHeartbeats 1000000
namespace DL
open PySem PySem.Spec PyProof.Rows L2
variable [Tbl]
/-! ### defs that change the list they are lent (their first argument) -/
def dCallM (F : List PyData → List PyData → Option (List PyData × DV)) (i : Nat) (δ : DA) : DE := fun ρ => match lstAt ρ i with
  | none => .bad
  | some _ => (δ ρ).bind fun xs ρ1 => (coerceAll xs ρ1).bind fun ds ρ2 => match lstAt ρ2 i with
    | none => .bad
    | some c => match F c ds with
      | some (c', dv) => .ok dv (putL ρ2 i c')
      | none => .bad
def BgOkM (a : Addr) (H H' : Hp) : Prop := (∀ b o, b ≠ a → H b = some o → isTbl o = false → H' b = some o) ∧ ∀ b o, H b = some o → isTbl o = true → H' b ≠ none
def spDM (K : PySem.W.Frag) (F : List PyData → List PyData → Option (List PyData × DV)) : Sp := fun vs H Q _ => ∃ (a : Addr) (rest : List V) (G : Hp) (T : List NdefX.NTab) (us : List V) (c ds : List PyData), vs = .ref a :: rest ∧ G a = none ∧ GE G H ∧ (∀ b o, G b = some o → isTbl o = false) ∧ TabsOk T H ∧
  H a = some (.lst us) ∧ RDs K G us c ∧ RDs K G rest ds ∧
  match F c ds with
  | none => False
  | some (c', dv) => ∀ v H' G' us', GE G G' → GE G' H' → (∀ b o, G' b = some o → isTbl o = false) → (∀ b, G' b ≠ none → G b ≠ none ∨ H b = none) → BgOkM a H H' → TabsOk T H' → H' a = some (.lst us') → RDs K G' us' c' → ResOk K H G' H' v dv → Q v H'
structure FdM (P : Program) (w : World) (K : PySem.W.Frag) (mg : Str → Option Value) (base : Heap) (k : Nat) (x : Str) (F : List PyData → List PyData → Option (List PyData × DV)) : Prop where
  ex : ∃ (f : Addr) (fd : FuncData) (ps : List Str), FnOk P w K mg base (L2N.CX P w) k f fd ps (spDM K F) ∧ mg x = some (.ref f) ∧ PySem.W.keepIn K (.ref f) = true ∧ Binds K fd ps []
theorem FdM.mono {P : Program} {w : World} {K : PySem.W.Frag} {mg : Str → Option Value} {base : Heap} {j k : Nat} {x : Str} {F : List PyData → List PyData → Option (List PyData × DV)} (h : FdM P w K mg base j x F) (l : j ≤ k) : FdM P w K mg base k x F := by
  obtain ⟨f, fd, ps, h1, h2⟩ := h.ex
  exact ⟨f, fd, ps, h1.mono l, h2⟩
section
variable {K : PySem.W.Frag} {e : Ent} {G H : Hp} {σ : L2.St} {ρ : Rho}
theorem Rp.afterM {G' H' : Hp} {i : Nat} {c c' : List PyData} {a : Addr} {us' : List V} (rp : Rp K e G H σ ρ) (hl : lstAt ρ i = some c) (hs : σ[i]? = some (some (.ref a)))
    (ge' : GE G G') (le' : GE G' H') (nt' : ∀ b o, G' b = some o → isTbl o = false) (new' : ∀ b, G' b ≠ none → G b ≠ none ∨ H b = none) (bg' : BgOkM a H H') (tb' : TabsOk e.T H') (ha' : H' a = some (.lst us')) (r' : RDs K G' us' c') :
    Rp K e G' H' σ (putL ρ i c') := by
  obtain ⟨a0, us, e0, hu, _, hG⟩ := lstAt_own rp hl hs
  cases e0
  have hG' : G' a = none := by
    cases q : G' a with
    | none => rfl
    | some o =>
      rcases new' a (by rw [q]; simp) with z | z
      · exact absurd hG z
      · rw [hu] at z; cases z
  have hi : i < ρ.length := rp.len' hs
  -- the slot's kind
  have kind : (∃ ds, ρ[i]? = some (some (.ow (.lst ds)))) ∨ ∃ ds, ρ[i]? = some (some (.mu (.lst ds))) := by
    unfold lstAt at hl
    split at hl
    · rename_i ds q; exact .inl ⟨ds, q⟩
    · rename_i ds q; exact .inr ⟨ds, q⟩
    · cases hl
  have n0 : ∀ b o, e.H0 b = some o → ¬ e.M b → b ≠ a := fun b o h0 m z => by
    rcases kind with ⟨ds, q⟩ | ⟨ds, q⟩
    · obtain ⟨b', e1, _, z0, _⟩ := rp.slot i _ _ hs q
      cases e1; rw [z, z0] at h0; cases h0
    · obtain ⟨b', e1, _, z0, _⟩ := rp.slot i _ _ hs q
      cases e1; exact m (z ▸ z0)
  have nP : ∀ q ∈ e.P, q.1 ≠ a := by
    rcases kind with ⟨ds, q⟩ | ⟨ds, q⟩
    · obtain ⟨b', e1, _, _, p, _⟩ := rp.slot i _ _ hs q
      cases e1; exact p
    · obtain ⟨b', e1, _, _, p, _⟩ := rp.slot i _ _ hs q
      cases e1; exact p
  have there : ∀ b, H b ≠ none → H' b ≠ none := fun b h => by
    by_cases hb : b = a
    · rw [hb, ha']; simp
    · cases z : H b with
      | none => exact absurd z h
      | some o =>
        cases t : isTbl o with
        | false => rw [bg'.1 b o hb z t]; simp
        | true => exact bg'.2 b o z t
  have putE : ∃ dv', putL ρ i c' = ρ.set i (some dv') ∧ ((∃ ds, ρ[i]? = some (some (.ow (.lst ds))) ∧ dv' = .ow (.lst c')) ∨ ∃ ds, ρ[i]? = some (some (.mu (.lst ds))) ∧ dv' = .mu (.lst c')) := by
    unfold putL
    rcases kind with ⟨ds, q⟩ | ⟨ds, q⟩
    · rw [q]; exact ⟨_, rfl, .inl ⟨ds, rfl, rfl⟩⟩
    · rw [q]; exact ⟨_, rfl, .inr ⟨ds, rfl, rfl⟩⟩
  obtain ⟨dv', pe, pk⟩ := putE
  rw [pe]
  have oldoc : ∃ dv0, ρ[i]? = some (some dv0) ∧ dv0.oc? ≠ none := by
    rcases kind with ⟨ds, q⟩ | ⟨ds, q⟩
    · exact ⟨_, q, by simp [DV.oc?]⟩
    · exact ⟨_, q, by simp [DV.oc?]⟩
  obtain ⟨dv0, q0, hc0⟩ := oldoc
  refine ⟨le', nt', fun b o h0 m t => ?_, fun b m => there b (rp.mt b m), fun b o h0 t => there b (rp.tb b o h0 t), fun b z => ?_, fun b o z => ⟨fun l => ge' b o ((rp.ge b o z).1 l), fun l => ?_⟩, fun q hq => ?_, tb', by rw [List.length_set]; exact rp.len, fun j v dv h1 h2 => ?_, fun j dv h => ?_, fun j k v d1 d2 hjk h1 h2 h3 h4 => ?_⟩
  · obtain ⟨k1, k2⟩ := rp.bg b o h0 m t
    have nb := n0 b o h0 m
    refine ⟨fun l => bg'.1 b o nb (k1 l) t, fun l => ?_⟩
    obtain ⟨ob, z⟩ := k2 l
    exact ⟨ob, bg'.1 b _ nb z rfl⟩
  · rcases new' b z with z1 | z1
    · exact rp.new b z1
    · exact .inr (rp.fresh0 z1)
  · obtain ⟨ob, z1⟩ := (rp.ge b o z).2 l
    exact ⟨ob, ge' b _ z1⟩
  · obtain ⟨h1, h2, h3, h4⟩ := rp.pr q hq
    refine ⟨bg'.1 _ _ (nP q hq) h1 h4, ?_, h3, h4⟩
    cases z : G' q.1 with
    | none => rfl
    | some o =>
      rcases new' q.1 (by rw [z]; simp) with z1 | z1
      · exact absurd h2 z1
      · rw [h1] at z1; cases z1
  · by_cases hj : j = i
    · subst hj
      rw [List.getElem?_set_self hi] at h2; cases h2
      rw [hs] at h1; cases h1
      rcases pk with ⟨ds, q, rfl⟩ | ⟨ds, q, rfl⟩
      · obtain ⟨b', e1, _, z0, z1, _⟩ := rp.slot j _ _ hs q
        cases e1
        exact ⟨a, rfl, hG', z0, z1, us', ha', r'⟩
      · obtain ⟨b', e1, _, z0, z1, _⟩ := rp.slot j _ _ hs q
        cases e1
        exact ⟨a, rfl, hG', z0, z1, us', ha', r'⟩
    · rw [List.getElem?_set_ne (Ne.symm hj)] at h2
      have na : ∀ b, v = .ref b → dv.oc? ≠ none → b ≠ a := fun b ev hd z => by
        rcases rp.apart j i v dv dv0 hj h1 (by rw [hs, ev, z]) h2 q0 with q1 | q1
        · exact hd q1
        · exact hc0 q1
      refine (rp.slot j v dv h1 h2).mono ge'.rd (fun b ev hd n => ?_) fun b u ev hd q => ?_
      · cases q : G' b with
        | none => rfl
        | some o =>
          obtain ⟨u, hu2, _⟩ := (rp.slot j v dv h1 h2).tracked ev hd
          rcases new' b (by rw [q]; simp) with z1 | z1
          · exact absurd n z1
          · rw [hu2] at z1; cases z1
      · obtain ⟨u', hu2, ht, _⟩ := (rp.slot j v dv h1 h2).tracked ev hd
        rw [q] at hu2; cases hu2
        exact bg'.1 b u (na b ev hd) q ht
  · by_cases hj : j = i
    · subst hj; exact ⟨_, hs⟩
    · rw [List.getElem?_set_ne (Ne.symm hj)] at h; exact rp.has j dv h
  · have old : ∀ (m : Nat) (d : DV), (ρ.set i (some dv'))[m]? = some (some d) → ∃ d0, ρ[m]? = some (some d0) ∧ (d0.oc? = none → d.oc? = none) := fun m d hm => by
      by_cases z : m = i
      · subst z
        exact ⟨dv0, q0, fun q => absurd q hc0⟩
      · rw [List.getElem?_set_ne (Ne.symm z)] at hm
        exact ⟨d, hm, id⟩
    obtain ⟨e1, k1, l1⟩ := old j d1 h3
    obtain ⟨e2, k2, l2⟩ := old k d2 h4
    exact (rp.apart j k v e1 e2 hjk h1 h2 k1 k2).imp l1 l2
end
section
variable {X : Cx} {cv : Str → Value} {W : WX}
theorem de_callM {k i : Nat} {x : Str} {F : List PyData → List PyData → Option (List PyData × DV)} {a : Expr} {es : List Expr} {δ : DA} {p pos : Pos} (fd : FdM X.prog X.w X.K X.mg X.base k x F) (hr : Room k X.A) (hv : DEx X cv W a (dV i)) (ha : DAx X cv W es δ) (hg : Gl X x := by rfl)
    (hdb : (x == ("__debug__" : Str)) = false := by decide) (he : starEach (a :: es) X.env = (false, eval a X.env) :: starEach es X.env := by rfl) (hpl : (backTo pos (starEach es X.env)).any (·.1) = false := by rfl) :
    DEx X cv W (.Call (.Name x p) (a :: es) [] pos) (dCallM F i δ) := by
  obtain ⟨f, fdd, ps, h1, h2, h3, h4⟩ := fd.ex
  refine PE_imp (pe_callS h1 hr hg h2 h3 h4 (fun σ => L2N.passAt (takesW0 (X := X)) σ) (pa_cons hv ha he) hdb he hpl) fun σ H Q ⟨e, G, ρ, rp, p⟩ => ?_
  unfold dCallM at p
  cases q0 : lstAt ρ i with
  | none => rw [q0] at p; exact p.elim
  | some c0 =>
    rw [q0] at p
    dsimp only at p
    refine ⟨e, G, ρ, rp, ?_⟩
    rw [dV_lst q0]
    intro H1 G1 rp1 ge1 v hv
    have hv : σ[i]? = some (some v) := hv
    refine ⟨e, G1, ρ, rp1, Post.bind (Post.ge p ge1) fun xs ρ1 G2 H2 rp2 ge2 p2 vs hvs => ?_⟩
    refine post_coerceAll rp2 hvs p2 fun ds ρ2 G3 rp3 ge3 rd p3 => ?_
    cases q1 : lstAt ρ2 i with
    | none => rw [q1] at p3; exact p3.elim
    | some c =>
      rw [q1] at p3
      dsimp only at p3
      obtain ⟨a1, us, rfl, hu, r3, hG⟩ := lstAt_own rp3 q1 hv
      refine ⟨a1, vs, G3, e.T, us, c, ds, rfl, hG, rp3.le, rp3.nt, rp3.tabs, hu, r3, rd, ?_⟩
      cases q2 : F c ds with
      | none => rw [q2] at p3; exact p3.elim
      | some cd =>
        obtain ⟨c', dv⟩ := cd
        rw [q2] at p3
        intro v H' G' us' ge' le' nt' new' bg' tb' ha' r' res
        have rp4 := rp3.afterM q1 hv ge' le' nt' new' bg' tb' ha' r'
        refine p3 H' G' rp4 ge' v ?_
        have vk := res.vok rp3
        cases dv with
        | sh d => exact vk
        | ow cc =>
          obtain ⟨b, rfl, k1, k2, k3, k4, k5⟩ := vk
          refine ⟨b, rfl, k1, k2, k3, k4, fun j dv hj hs => ?_⟩
          obtain ⟨b2, e2, _, hn, _⟩ := res
          cases e2
          have s := (rp4.slot j _ dv hs hj)
          cases z : dv.oc? with
          | none => rfl
          | some oc =>
            -- a slot's own object stood ahead of the call
            by_cases hji : j = i
            · subst hji
              rw [hv] at hs
              cases hs
              rw [hu] at hn; cases hn
            · have hj2 : ρ2[j]? = some (some dv) := by
                unfold putL at hj
                split at hj
                · rwa [List.getElem?_set_ne (Ne.symm hji)] at hj
                · rwa [List.getElem?_set_ne (Ne.symm hji)] at hj
                · exact hj
              have := k5 j dv hj2 hs
              rw [z] at this; cases this
        | mu cc => exact vk.elim
        | op a => exact res.elim
        | bw i => exact res.elim
end
/-- the slots at the entry of a def that is lent a list -/
def entryM (n : Nat) (c ds : List PyData) : Rho := some (.mu (.lst c)) :: entryR (n - 1) ds
theorem rp_entryM {K : PySem.W.Frag} {G H : Hp} {T : List NdefX.NTab} {N : List Str} {a : Addr} {us rest : List V} {c ds : List PyData} (le : GE G H) (nt : ∀ b o, G b = some o → isTbl o = false) (tb : TabsOk T H) (hG : G a = none) (hu : H a = some (.lst us)) (rc : RDs K G us c) (r : RDs K G rest ds) (hl : rest.length + 1 ≤ N.length) :
    Rp K ⟨H, G, (· = a), fun _ => false, [], T⟩ G H (L2.start N (.ref a :: rest)) (entryM N.length c ds) := by
  have st : ∀ (i : Nat) (v : V), (L2.start N (.ref a :: rest))[i + 1]? = some (some v) → rest[i]? = some v := fun i v h => by
    unfold L2.start at h
    have h : (List.map some rest ++ List.replicate (N.length - (rest.length + 1)) none)[i]? = some (some v) := h
    by_cases hi : i < rest.length
    · rw [List.getElem?_append_left (by simpa using hi), List.getElem?_map] at h
      cases q : rest[i]? with
      | none => rw [q] at h; cases h
      | some d => rw [q] at h; cases h; rfl
    · rw [List.getElem?_append_right (by simpa using hi), List.getElem?_replicate] at h
      split at h <;> cases h
  have st2 : ∀ (i : Nat) (v : V), rest[i]? = some v → (L2.start N (.ref a :: rest))[i + 1]? = some (some v) := fun i v h => start_get (vs := .ref a :: rest) (i := i + 1) (by simpa using h)
  refine ⟨le, nt, fun b o h m _ => ⟨fun _ => h, (fun z => nomatch z)⟩, fun b m => ?_, fun b o h _ => ?_, fun b h => .inl h, fun b o h => ⟨fun _ => h, (fun z => nomatch z)⟩, (fun p hp => nomatch hp), tb, ?_, fun i v dv h1 h2 => ?_, fun i dv h => ?_, fun i j v dv dv' hij h1 h2 h3 h4 => ?_⟩
  · have m : b = a := m
    rw [m, hu]; simp
  · have h : H b = some o := h
    rw [h]; simp
  · unfold L2.start entryM entryR
    simp [r.length]
    have := r.length
    omega
  · cases i with
    | zero =>
      have h2 : some (some (DV.mu (.lst c))) = some (some dv) := h2
      cases h2
      have h1 : some (some (V.ref a)) = some (some v) := h1
      cases h1
      exact ⟨a, rfl, hG, rfl, (fun p hp => nomatch hp), us, hu, rc⟩
    | succ i =>
      have h2 : (entryR (N.length - 1) ds)[i]? = some (some dv) := h2
      obtain ⟨d, h3, rfl⟩ := entry_get h2
      obtain ⟨v', h4, rd⟩ := r.get h3
      have := st i v h1
      rw [h4] at this; cases this
      exact rd
  · cases i with
    | zero => exact ⟨.ref a, rfl⟩
    | succ i =>
      have h : (entryR (N.length - 1) ds)[i]? = some (some dv) := h
      obtain ⟨d, h3, rfl⟩ := entry_get h
      obtain ⟨v', h4, rd⟩ := r.get h3
      exact ⟨v', st2 i v' h4⟩
  · cases i with
    | zero =>
      cases j with
      | zero => exact absurd rfl hij
      | succ j =>
        have h4 : (entryR (N.length - 1) ds)[j]? = some (some dv') := h4
        obtain ⟨d, _, rfl⟩ := entry_get h4
        exact .inr rfl
    | succ i =>
      have h3 : (entryR (N.length - 1) ds)[i]? = some (some dv) := h3
      obtain ⟨d, _, rfl⟩ := entry_get h3
      exact .inl rfl
theorem rp_exitM {K : PySem.W.Frag} {G H G' H' : Hp} {T : List NdefX.NTab} {a : Addr} {σ : L2.St} {ρ : Rho} (rp : Rp K ⟨H, G, (· = a), fun _ => false, [], T⟩ G' H' σ ρ) : BgOkM a H H' ∧ (∀ b, G' b ≠ none → G b ≠ none ∨ H b = none) ∧ GE G G' :=
  ⟨⟨fun b o hb h t => (rp.bg b o h hb t).1 rfl, fun b o h t => rp.tb b o h t⟩, rp.new, fun b o h => (rp.ge b o h).1 rfl⟩
/-- slot 0 stays the lent list: only by a store to it could it be another -/
theorem lent_at {K : PySem.W.Frag} {G H G' H' : Hp} {T : List NdefX.NTab} {a : Addr} {σ : L2.St} {ρ : Rho} {c' : List PyData} (rp : Rp K ⟨H, G, (· = a), fun _ => false, [], T⟩ G' H' σ ρ) (h : ∃ ds, ρ[0]? = some (some (.mu (.lst ds)))) (hl : lstAt ρ 0 = some c') :
    ∃ us', H' a = some (.lst us') ∧ RDs K G' us' c' := by
  obtain ⟨ds, q⟩ := h
  obtain ⟨v, hv⟩ := rp.has 0 _ q
  obtain ⟨b, rfl, h1, h2, _, us', h3, r⟩ := rp.slot 0 v _ hv q
  have h2 : b = a := h2
  subst h2
  unfold lstAt at hl
  rw [q] at hl
  cases hl
  exact ⟨us', h3, r⟩
def muAt (ρ : Rho) : Bool := match (ρ[0]? : Option (Option DV)) with
  | some (some (DV.mu (OC.lst _))) => true
  | _ => false
theorem muAt_ok {ρ : Rho} (h : muAt ρ = true) : ∃ ds, ρ[0]? = some (some (.mu (.lst ds))) := by
  unfold muAt at h
  split at h
  · exact ⟨_, by assumption⟩
  · cases h
/-- what a body makes of a lent list and data -/
def bodyM2 (n : Nat) (δ : DS) (c ds : List PyData) : Option (List PyData × DV) := match δ (entryM n c ds) with
  | .ok (.rt (.sh d)) ρ => if muAt ρ = true then (lstAt ρ 0).map fun c' => (c', .sh d) else none
  | .ok (.rt (.ow oc)) ρ => if muAt ρ = true then (lstAt ρ 0).map fun c' => (c', .ow oc) else none
  | .ok .nx ρ => if muAt ρ = true then (lstAt ρ 0).map fun c' => (c', .sh .none) else none
  | _ => none
section
variable {P : Program} {w : World} {K : PySem.W.Frag} {mg : Str → Option Value} {base : Heap} {cv : Str → Value}
theorem fdM_of {x : Str} {st : Stmt} {f : Addr} {fd : FuncData} {N ps : List Str} {k : Nat} {F : List PyData → List PyData → Option (List PyData × DV)} {δ : DS} (Fn : Fun K x x st f fd) (S : FnScope N ps (defScope st)) (hm : mg x = some (.ref f)) (hb : Binds K fd ps [])
    (hbody : ∀ (cdv : Value), fd.code = cdv → ∀ (A : Around) (outer : List Env) (s : Shared) (H : Hp) (E : XK), Room k (A.deeper (envOfC x (defScope st) s.heap.objs.size f cdv)) →
      DSs (cxOf (L2N.CX P w) P w K mg base N x (defScope st) f cdv A outer s H E) cv (fun cls d _ H => E cls d H) (defBody st) δ)
    (hlen : ∀ c ds r, F c ds = some r → ds.length + 1 = ps.length) (hF : ∀ c ds r, F c ds = some r → bodyM2 N.length δ c ds = some r) : FdM P w K mg base (k + 1) x F := by
  obtain ⟨oc, od, kV, doc, pm, an, cdv0, ct, osl, rfl, lk, hcd⟩ := Fn.ex
  refine ⟨f, _, ps, fn_of lk hcd S (fun vs H Q E h => ?_) (fun A outer s H vs Q E hr h => ⟨_, hbody cdv0 rfl A outer s H E hr, ?_⟩), hm, Fn.kp, hb⟩
  · obtain ⟨a, rest, G, T, us, c, ds, rfl, _, _, _, _, _, _, r, q⟩ := h
    cases e : F c ds with
    | none => rw [e] at q; exact q.elim
    | some fr => simp [r.length, hlen c ds fr e]
  · obtain ⟨a, rest, G, T, us, c, ds, rfl, hG, le, nt, tb, hu, rc, r, q⟩ := h
    cases e : F c ds with
    | none => rw [e] at q; exact q.elim
    | some fr =>
      obtain ⟨c', dv⟩ := fr
      rw [e] at q
      have hl : rest.length + 1 ≤ N.length := by
        rw [r.length, hlen c ds _ e]
        have := congrArg List.length S.pre
        rw [List.length_take] at this
        omega
      refine ⟨_, G, entryM N.length c ds, rp_entryM le nt tb hG hu rc r hl, ?_⟩
      have hb := hF c ds _ e
      unfold bodyM2 at hb
      cases z : δ (entryM N.length c ds) with
      | bad => rw [z] at hb; cases hb
      | exc c ρ' => rw [z] at hb; cases hb
      | ok o ρ' =>
        rw [z] at hb
        cases o with
        | nx =>
          dsimp only at hb
          split at hb
          · rename_i hm
            cases q2 : lstAt ρ' 0 with
            | none => rw [q2] at hb; cases hb
            | some c2 =>
              rw [q2] at hb; cases hb
              intro σ' H' G' rp ge
              have x := rp_exitM rp
              obtain ⟨us', h3, r3⟩ := lent_at rp (muAt_ok hm) q2
              exact q .non H' G' us' x.2.2 rp.le rp.nt x.2.1 x.1 rp.tabs h3 r3 .non
          · cases hb
        | bk => cases hb
        | ct => cases hb
        | rt dv =>
          cases dv with
          | sh d =>
            dsimp only at hb
            split at hb
            · rename_i hm
              cases q2 : lstAt ρ' 0 with
              | none => rw [q2] at hb; cases hb
              | some c2 =>
                rw [q2] at hb; cases hb
                intro v σ' H' G' rp ge hv
                have x := rp_exitM rp
                obtain ⟨us', h3, r3⟩ := lent_at rp (muAt_ok hm) q2
                exact q v H' G' us' x.2.2 rp.le rp.nt x.2.1 x.1 rp.tabs h3 r3 hv
            · cases hb
          | ow oc =>
            dsimp only at hb
            split at hb
            · rename_i hm
              cases q2 : lstAt ρ' 0 with
              | none => rw [q2] at hb; cases hb
              | some c2 =>
                rw [q2] at hb; cases hb
                intro v σ' H' G' rp ge hv
                have x := rp_exitM rp
                obtain ⟨us', h3, r3⟩ := lent_at rp (muAt_ok hm) q2
                obtain ⟨b, k1, k2, k3, _, k5, _⟩ := hv
                exact q v H' G' us' x.2.2 rp.le rp.nt x.2.1 x.1 rp.tabs h3 r3 ⟨b, k1, k2, k3, k5⟩
            · cases hb
          | mu c => cases hb
          | op a => cases hb
          | bw i => cases hb
end
end DL
end

section
set_option Elab.async false
set_option linter.all false
set_option maxRecDepth 100000
set_option maxHeartbeats 400000
/-! DL13: dicts by ints and texts. -/
namespace DL
open PySem PySem.Spec PyProof.Rows L2
variable [Tbl]
def keyOf : PyData → Option Key
  | .int i => some (.inl i)
  | .str z => some (.inr z)
  | _ => none
theorem keyOf_keyD (k : Key) : keyOf (keyD k) = some k := by cases k <;> rfl
theorem keyOf_inv {d : PyData} {k : Key} (h : keyOf d = some k) : d = keyD k := by
  unfold keyOf at h
  split at h <;> cases h <;> rfl
theorem rd_key {K : PySem.W.Frag} {G : Hp} {v : V} {d : PyData} {k : Key} (r : RD K G v d) (h : keyOf d = some k) : v = kV k := by
  have := keyOf_inv h
  subst this
  cases k <;> cases r <;> rfl
def lookK : List (PyData × PyData) → Key → Option PyData
  | [], _ => none
  | (p, d) :: r, k => if keyOf p = some k then some d else lookK r k
def putKD (kvs : List (PyData × PyData)) (k : Key) (d : PyData) : List (PyData × PyData) :=
  if (lookK kvs k).isSome = true then kvs.map (fun p => if keyOf p.1 = some k then (p.1, d) else p) else kvs ++ [(keyD k, d)]
abbrev dicOf (es : List (Key × V)) (ds : List PyData) : List (PyData × PyData) := (es.map fun p => keyD p.1).zip ds
section
variable {K : PySem.W.Frag} {G : Hp}
theorem look_val {k : Key} : ∀ {es : List (Key × V)} {ds : List PyData}, RDs K G (es.map (·.2)) ds → (∃ v d, valV es k = some v ∧ lookK (dicOf es ds) k = some d ∧ RD K G v d) ∨ (valV es k = none ∧ lookK (dicOf es ds) k = none)
  | [], _, .nil => .inr ⟨rfl, rfl⟩
  | (k', v) :: es, _, .cons (d := d) (ds := ds) r t => by
    by_cases e : k' = k
    · subst e
      exact .inl ⟨v, d, valV_pos rfl, by simp [dicOf, lookK, keyOf_keyD], r⟩
    · have e1 : valV ((k', v) :: es) k = valV es k := valV_neg e
      have e2 : lookK (dicOf ((k', v) :: es) (d :: ds)) k = lookK (dicOf es ds) k := by
        show (if keyOf (keyD k') = some k then _ else lookK (dicOf es ds) k) = _
        rw [keyOf_keyD, if_neg (fun z => e (Option.some.inj z))]
      rw [e1, e2]
      exact look_val t
theorem put_map {k : Key} {v : V} {d : PyData} (rd : RD K G v d) : ∀ {es : List (Key × V)} {ds : List PyData}, RDs K G (es.map (·.2)) ds →
    ∃ ds', RDs K G ((es.map fun kv => if kv.1 = k then (kv.1, v) else kv).map (·.2)) ds' ∧ (dicOf es ds).map (fun p => if keyOf p.1 = some k then (p.1, d) else p) = dicOf (es.map fun kv => if kv.1 = k then (kv.1, v) else kv) ds'
  | [], _, .nil => ⟨[], .nil, rfl⟩
  | (k', v') :: es, _, .cons (d := d') (ds := ds) r t => by
    obtain ⟨ds', h1, h2⟩ := put_map rd t
    by_cases e : k' = k
    · refine ⟨d :: ds', ?_, ?_⟩
      · simp only [List.map_cons, if_pos e]; exact .cons rd h1
      · simp only [List.map_cons, dicOf, List.zip_cons_cons, keyOf_keyD, Option.some.injEq, if_pos e]
        exact congrArg _ h2
    · refine ⟨d' :: ds', ?_, ?_⟩
      · simp only [List.map_cons, if_neg e]; exact .cons r h1
      · simp only [List.map_cons, dicOf, List.zip_cons_cons, keyOf_keyD, Option.some.injEq, if_neg e]
        exact congrArg _ h2
theorem put_val {k : Key} {v : V} {d : PyData} (rd : RD K G v d) {es : List (Key × V)} {ds : List PyData} (t : RDs K G (es.map (·.2)) ds) : ∃ ds', RDs K G ((putK es k v).map (·.2)) ds' ∧ putKD (dicOf es ds) k d = dicOf (putK es k v) ds' := by
  unfold putK putKD
  rw [valV_any]
  rcases look_val (k := k) t with ⟨v0, d0, h1, h2, _⟩ | ⟨h1, h2⟩
  · rw [h1, h2]
    exact put_map rd t
  · rw [h1, h2]
    show ∃ ds', RDs K G ((es ++ [(k, v)]).map (·.2)) ds' ∧ dicOf es ds ++ [(keyD k, d)] = dicOf (es ++ [(k, v)]) ds'
    refine ⟨ds ++ [d], by rw [List.map_append]; exact t.append (.one rd), ?_⟩
    unfold dicOf
    rw [List.map_append, List.zip_append (by have := t.length; simpa using this)]
    rfl
end
def dicOwn (ρ : Rho) (i : Nat) : Option (List (PyData × PyData)) := match ρ[i]? with
  | some (some (.ow (.dic false kvs))) => some kvs
  | some (some (.mu (.dic false kvs))) => some kvs
  | _ => none
def putDic (ρ : Rho) (i : Nat) (kvs : List (PyData × PyData)) : Rho := match ρ[i]? with
  | some (some (.ow _)) => ρ.set i (some (.ow (.dic false kvs)))
  | _ => ρ.set i (some (.mu (.dic false kvs)))
section
variable {K : PySem.W.Frag} {e : Ent} {G H : Hp} {σ : L2.St} {ρ : Rho} {i : Nat} {kvs : List (PyData × PyData)} {v : V}
theorem dicOwn_ok (rp : Rp K e G H σ ρ) (h : dicOwn ρ i = some kvs) (hs : σ[i]? = some (some v)) : ∃ a es ds, v = .ref a ∧ H a = some (.dK es) ∧ RDs K G (es.map (·.2)) ds ∧ kvs = dicOf es ds := by
  unfold dicOwn at h
  split at h
  · rename_i k q
    cases h
    obtain ⟨a, h1, _, _, _, o⟩ := rp.slot i v _ hs q
    rcases o with ⟨_, es, ds, h2, h3, h4⟩ | ⟨z, _⟩
    · exact ⟨a, es, ds, h1, h2, h3, h4⟩
    · cases z
  · rename_i k q
    cases h
    obtain ⟨a, h1, _, _, _, o⟩ := rp.slot i v _ hs q
    rcases o with ⟨_, es, ds, h2, h3, h4⟩ | ⟨z, _⟩
    · exact ⟨a, es, ds, h1, h2, h3, h4⟩
    · cases z
  · cases h
/-- the dict that a value is -/
def dicV (ρ : Rho) : DV → Option (List (PyData × PyData))
  | .bw i => dicOwn ρ i
  | .sh (.dict kvs) => if kvs ≠ [] ∧ kvs.all (fun p => (keyOf p.1).isSome) = true then some kvs else none
  | _ => none
theorem dicV_ok {x : DV} (rp : Rp K e G H σ ρ) (hv : VOk K e G H σ ρ v x) (h : dicV ρ x = some kvs) : ∃ a es ds, v = .ref a ∧ Rd H a (.dK es) ∧ RDs K G (es.map (·.2)) ds ∧ kvs = dicOf es ds := by
  unfold dicV at h
  split at h
  · obtain ⟨a, es, ds, h1, h2, h3⟩ := dicOwn_ok rp h hv
    exact ⟨a, es, ds, h1, .inl h2, h3⟩
  · rename_i k
    by_cases hk : k ≠ [] ∧ k.all (fun p => (keyOf p.1).isSome) = true
    · rw [if_pos hk] at h
      cases h
      have s : RD K G v (.dict kvs) := hv
      cases s with
      | dK h1 r => exact ⟨_, _, _, rfl, rp.le.rd.1 _ _ h1, r, rfl⟩
      | dT h1 r =>
        exfalso
        rename_i es ds
        cases es with
        | nil => exact hk.1 rfl
        | cons p es =>
          cases r with
          | cons r t => simp [keyT, keyOf] at hk
    · rw [if_neg hk] at h; cases h
  · cases h
theorem dicV_kept {x : DV} (h : dicV ρ x = some kvs) : kept x = true := by
  unfold dicV at h
  split at h
  · rfl
  · rfl
  · cases h
theorem dic_put {a : Addr} {es : List (Key × V)} {ds : List PyData} {kvs' : List (PyData × PyData)} (rp : Rp K e G H σ ρ) (h : dicOwn ρ i = some kvs) (hs : σ[i]? = some (some (.ref a))) (r : RDs K G (es.map (·.2)) ds) (hk : kvs' = dicOf es ds) :
    Rp K e G (upd H a (.dK es)) σ (putDic ρ i kvs') := by
  unfold dicOwn at h
  unfold putDic
  split at h
  · rename_i q
    rw [q]
    exact rp.write hs q (by simp [DV.oc?]) (.inl ⟨_, rfl, rfl⟩) (.inl ⟨rfl, es, ds, upd_same, r, hk⟩)
  · rename_i q
    rw [q]
    exact rp.write hs q (by simp [DV.oc?]) (.inr ⟨_, rfl, rfl⟩) (.inl ⟨rfl, es, ds, upd_same, r, hk⟩)
  · cases h
end
/-- d.get(k, z) -/
def dGet2 (δ κ ε : DE) : DE := fun ρ => (δ ρ).bind fun x ρ0 => match dicV ρ0 x with
  | none => .bad
  | some _ => (κ ρ0).bind fun k ρ1 => (ε ρ1).bind fun z ρ2 => match dicV ρ2 x, (peek ρ2 (keep k)).bind keyOf with
    | some kvs, some q => match lookK kvs q with
      | some d => .ok (.sh d) ρ2
      | none => match z with
        | .sh d => .ok (.sh d) ρ2
        | _ => .bad
    | _, _ => .bad
/-- d[k] -/
def dLoad (δ κ : DE) : DE := fun ρ => (δ ρ).bind fun x ρ0 => match dicV ρ0 x with
  | none => .bad
  | some _ => (κ ρ0).bind fun k ρ1 => match dicV ρ1 x, (peek ρ1 k).bind keyOf with
    | some kvs, some q => match lookK kvs q with
      | some d => .ok (.sh d) ρ1
      | none => .bad
    | _, _ => .bad
/-- d[k] = e -/
def dPut (i : Nat) (κ δ : DE) : DS := fun ρ => (δ ρ).bind fun x ρ1 => match dicOwn ρ1 i with
  | none => .bad
  | some _ => (κ ρ1).bind fun k ρ2 => (coerce (keep x) ρ2).bind fun d ρ3 => match dicOwn ρ3 i, (peek ρ3 k).bind keyOf with
    | some kvs, some q => if kvs.length < 100000 then .ok .nx (putDic ρ3 i (putKD kvs q d)) else .bad
    | _, _ => .bad
def dDicK : DE := fun ρ => .ok (.ow (.dic false [])) ρ
section
variable {X : Cx} {cv : Str → Value} {W : WX}
theorem de_dicK {pos : Pos} : DEx X cv W (.Dict [] [] pos) dDicK := PE_imp pe_dnewK fun σ H Q ⟨e, G, ρ, rp, p⟩ => fun q hq => by
  obtain ⟨rp2, hv⟩ := rp.newOwn (o := .dK []) (c := .dic false []) hq (.inl ⟨rfl, [], [], upd_same, .nil, rfl⟩)
  exact p _ G rp2 (GE.refl G) _ hv
theorem dic_isD {H : Hp} {a : Addr} {es : List (Key × V)} (h : Rd H a (.dK es)) : IsD H a := .inl ⟨es, h⟩
theorem pk_key {K : PySem.W.Frag} {G H : Hp} {v : V} {d : PyData} {k : Key} (p : Pk K G H v d) (h : keyOf d = some k) : v = kV k := by
  rcases p with r | ⟨a, c, _, _, z⟩
  · exact rd_key r h
  · cases c <;> subst z <;> cases h
theorem de_get2 {o a b : Expr} {δ κ ε : DE} {apos cpos : Pos} (hu : X.A.units + 1 < cLine) (ho : DEx X cv W o δ) (ha : DEx X cv W a κ) (hb : DEx X cv W b ε) (m : M2 X o "get" apos a b cpos) :
    DEx X cv W (.Call (.Attribute o "get" apos) [a, b] [] cpos) (dGet2 δ κ ε) := PE_imp (pe_dget2 hu ho ha hb m) fun σ H Q ⟨e, G, ρ, rp, p⟩ => by
  refine ⟨e, G, ρ, rp, Post.bind p fun x ρ0 G0 H0 rp0 ge0 p u hu0 => ?_⟩
  cases q0 : dicV ρ0 x with
  | none => rw [q0] at p; exact p.elim
  | some kvs0 =>
    rw [q0] at p
    dsimp only at p
    have hk := dicV_kept q0
    obtain ⟨a0, es0, _, ea, h1, _, _⟩ := dicV_ok rp0 hu0 q0
    refine ⟨a0, ea, dic_isD h1, e, G0, ρ0, rp0, Post.bind p fun k ρ1 G1 H1 rp1 ge1 p1 y hy => ?_⟩
    obtain ⟨G1', rp1', ge1', hy'⟩ := keep_ok rp1 hy
    have hkk := keep_kept k (vok_notmu hy)
    refine ⟨e, G1', ρ1, rp1', Post.bind (p1.ge ge1') fun z ρ2 G2 H2 rp2 ge2 p2 w hw => ?_⟩
    have hu2 := hu0.later (e' := e) (H' := H2) (ρ' := ρ2) ((ge1.trans ge1').trans ge2).rd hk
    have hy2 := hy'.later (e' := e) (H' := H2) (ρ' := ρ2) ge2.rd hkk
    cases q1 : dicV ρ2 x with
    | none => rw [q1] at p2; exact p2.elim
    | some kvs =>
      cases q2 : (peek ρ2 (keep k)).bind keyOf with
      | none => rw [q1, q2] at p2; exact p2.elim
      | some key =>
        rw [q1, q2] at p2
        dsimp only at p2
        obtain ⟨d, hd, hq⟩ := Option.bind_eq_some_iff.mp q2
        have ey := pk_key (peek_ok rp2 hy2 hd) hq
        obtain ⟨a1, es, ds, ea1, h3, r, ek⟩ := dicV_ok rp2 hu2 q1
        rw [ea] at ea1
        cases ea1
        subst ek
        refine ⟨valV es key, .inl ⟨es, key, h3, ey, rfl⟩, ?_⟩
        rcases look_val (k := key) r with ⟨v0, d0, z1, z2, z3⟩ | ⟨z1, z2⟩
        · rw [z2] at p2
          rw [z1]
          exact p2 H2 G2 rp2 (GE.refl G2) v0 z3
        · rw [z2] at p2
          rw [z1]
          cases z with
          | sh d1 => exact p2 H2 G2 rp2 (GE.refl G2) w hw
          | _ => exact p2.elim
theorem de_load {o a : Expr} {δ κ : DE} {pos : Pos} (hu : X.A.units + 1 < cLine) (ho : DEx X cv W o δ) (ha : DEx X cv W a κ) (hs : NoSl a := by exact fun _ _ => rfl) : DEx X cv W (.Subscript o a pos) (dLoad δ κ) := PE_imp (pe_dget hu ho ha hs) fun σ H Q ⟨e, G, ρ, rp, p⟩ => by
  refine ⟨e, G, ρ, rp, Post.bind p fun x ρ0 G0 H0 rp0 ge0 p u hu0 => ?_⟩
  cases q0 : dicV ρ0 x with
  | none => rw [q0] at p; exact p.elim
  | some kvs0 =>
    rw [q0] at p
    dsimp only at p
    have hk := dicV_kept q0
    obtain ⟨a0, es0, _, ea, h1, _, _⟩ := dicV_ok rp0 hu0 q0
    refine ⟨e, G0, ρ0, rp0, Post.bind p fun k ρ1 G1 H1 rp1 ge1 p1 y hy => ?_⟩
    have hu2 := hu0.later (e' := e) (H' := H1) (ρ' := ρ1) ge1.rd hk
    cases q1 : dicV ρ1 x with
    | none => rw [q1] at p1; exact p1.elim
    | some kvs =>
      cases q2 : (peek ρ1 k).bind keyOf with
      | none => rw [q1, q2] at p1; exact p1.elim
      | some key =>
        rw [q1, q2] at p1
        dsimp only at p1
        obtain ⟨d, hd, hq⟩ := Option.bind_eq_some_iff.mp q2
        have ey := pk_key (peek_ok rp1 hy hd) hq
        obtain ⟨a1, es, ds, ea1, h3, r, ek⟩ := dicV_ok rp1 hu2 q1
        subst ek
        rcases look_val (k := key) r with ⟨v0, d0, z1, z2, z3⟩ | ⟨z1, z2⟩
        · rw [z2] at p1
          exact ⟨a1, v0, ea1, .inl ⟨es, key, h3, ey, z1.symm⟩, p1 H1 G1 rp1 (GE.refl G1) v0 z3⟩
        · rw [z2] at p1
          exact p1.elim
theorem dV_own {ρ : Rho} {i : Nat} {kvs : List (PyData × PyData)} (h : dicOwn ρ i = some kvs) : dV i ρ = .ok (.bw i) ρ := by
  unfold dicOwn at h
  unfold dV
  split at h
  · rename_i q; rw [q]
  · rename_i q; rw [q]
  · cases h
theorem ds_dput {i : Nat} {o ix a : Expr} {κ δ : DE} {pos' pos : Pos} (hu : X.A.units + 1 < cLine) (ha : DEx X cv W a δ) (ho : DEx X cv W o (dV i)) (hi : DEx X cv W ix κ) (hs : swapsWith a (some (.Subscript o ix pos')) pos.line X.env = pure false := by rfl) :
    DSx X cv W (.Assign [.Subscript o ix pos'] a pos) (dPut i κ δ) := PS_imp (ps_dput hu ho hi ha hs) fun D σ H ⟨e, G, ρ, rp, p⟩ =>
  tD_post rp p fun x ρ1 v H1 G1 rp1 _ hv p1 => by
    obtain ⟨G1', rp1', ge1', hv'⟩ := keep_ok rp1 hv
    have hk := keep_kept x (vok_notmu hv)
    have p1 := p1.ge ge1'
    cases q0 : dicOwn ρ1 i with
    | none => rw [q0] at p1; exact p1.elim
    | some c0 =>
      rw [q0] at p1
      dsimp only at p1
      refine ⟨e, G1', ρ1, rp1', ?_⟩
      rw [dV_own q0]
      intro H2 G2 rp2 ge2 w hw
      have hw : σ[i]? = some (some w) := hw
      refine tD_post rp2 (p1.ge ge2) fun y ρ2 u H3 G3 rp3 ge3 hu p3 => ?_
      have hv3 := hv'.later (e' := e) (H' := H3) (ρ' := ρ2) (ge2.trans ge3).rd hk
      cases q1 : coerce (keep x) ρ2 with
      | bad => rw [q1] at p3; exact p3.elim
      | exc c r => exact absurd q1 coerce_noexc
      | ok d ρ3 =>
        rw [q1, R.bind_ok] at p3
        obtain ⟨G4, rp4, ge4, rd⟩ := coerce_ok rp3 hv3 q1
        have p4 := p3.ge ge4
        cases q2 : dicOwn ρ3 i with
        | none => rw [q2] at p4; exact p4.elim
        | some kvs =>
          cases q3 : (peek ρ3 y).bind keyOf with
          | none => rw [q2, q3] at p4; exact p4.elim
          | some key =>
            rw [q2, q3] at p4
            dsimp only at p4
            obtain ⟨dk, hd, hq⟩ := Option.bind_eq_some_iff.mp q3
            rw [(coerce_peek q1).2 y] at hd
            have ey := pk_key (peek_ok rp3 hu hd) hq
            obtain ⟨a1, es, ds, ea1, h3, r, ek⟩ := dicOwn_ok rp4 q2 hw
            subst ek ea1
            by_cases hl : (dicOf es ds).length < 100000
            · rw [if_pos hl] at p4
              obtain ⟨ds', r', ek'⟩ := put_val (k := key) rd r
              have hlen : es.length < sizeLine := by
                rw [sizeLine_eq]
                have l1 := r.length
                simp only [dicOf, List.length_zip, List.length_map] at hl l1
                omega
              exact ⟨a1, _, rfl, .inl ⟨es, key, h3, ey, hlen, rfl⟩, p4 σ _ G4 (dic_put rp4 q2 hw r' ek') (GE.refl G4)⟩
            · rw [if_neg hl] at p4; exact p4.elim
end
mutual
theorem RD.unlock {K : PySem.W.Frag} {G : Hp} {d : Addr} {od : Obj} {u : HO} (h : G d = some (.frz od u)) : ∀ {v : V} {x : PyData}, RD K G v x → RD K (upd G d u) v x
  | _, _, .non => .non
  | _, _, .bl b => .bl b
  | _, _, .int i => .int i
  | _, _, .str x => .str x
  | _, _, .lst (a := a) q r => .lst (by
      rcases q with (z | ⟨o, z⟩) | z
      · by_cases ha : a = d
        · rw [ha, h] at z; cases z
        · exact .inl (.inl (by rw [upd_ne ha]; exact z))
      · by_cases ha : a = d
        · rw [ha, h] at z; cases z; rw [ha]; exact .inl (.inl upd_same)
        · exact .inl (.inr ⟨o, by rw [upd_ne ha]; exact z⟩)
      · exact .inr z) (RDs.unlock h r)
  | _, _, .tup (a := a) q r => .tup (by rw [upd_ne (fun z => by rw [z, h] at q; cases q)]; exact q) (RDs.unlock h r)
  | _, _, .dK (a := a) q r => .dK (by
      rcases q with z | ⟨o, z⟩
      · by_cases ha : a = d
        · rw [ha, h] at z; cases z
        · exact .inl (by rw [upd_ne ha]; exact z)
      · by_cases ha : a = d
        · rw [ha, h] at z; cases z; rw [ha]; exact .inl upd_same
        · exact .inr ⟨o, by rw [upd_ne ha]; exact z⟩) (RDs.unlock h r)
  | _, _, .dT (a := a) q r => .dT (by
      rcases q with z | ⟨o, z⟩
      · by_cases ha : a = d
        · rw [ha, h] at z; cases z
        · exact .inl (by rw [upd_ne ha]; exact z)
      · by_cases ha : a = d
        · rw [ha, h] at z; cases z; rw [ha]; exact .inl upd_same
        · exact .inr ⟨o, by rw [upd_ne ha]; exact z⟩) (RDs.unlock h r)
theorem RDs.unlock {K : PySem.W.Frag} {G : Hp} {d : Addr} {od : Obj} {u : HO} (h : G d = some (.frz od u)) : ∀ {vs : List V} {xs : List PyData}, RDs K G vs xs → RDs K (upd G d u) vs xs
  | _, _, .nil => .nil
  | _, _, .cons r t => .cons (RD.unlock h r) (RDs.unlock h t)
end
section
variable {K : PySem.W.Frag} {e : Ent} {G H : Hp} {σ : L2.St} {ρ : Rho} {i : Nat} {d : Addr} {od : Obj} {u : HO}
theorem OwnAt.unlock {a : Addr} {c : OC} (h : G d = some (.frz od u)) (ha : a ≠ d) (o : OwnAt K G H a c) : OwnAt K (upd G d u) (upd H d u) a c := by
  cases c with
  | lst ds => obtain ⟨xs, h1, r⟩ := o; exact ⟨xs, by rw [upd_ne ha]; exact h1, r.unlock h⟩
  | dic t kvs =>
    rcases o with ⟨ft, es, ds, h1, r, q⟩ | ⟨ft, es, ds, h1, r, q⟩
    · exact .inl ⟨ft, es, ds, by rw [upd_ne ha]; exact h1, r.unlock h, q⟩
    · exact .inr ⟨ft, es, ds, by rw [upd_ne ha]; exact h1, r.unlock h, q⟩
/-- an object in the ground that stands apart from the entry's gets another state -/
theorem Rp.swap {u' : HO} (rp : Rp K e G H σ ρ) (hu : isTbl u = false) (hu2 : ∀ c q, u ≠ LamX.CodeO c q) (hu' : isTbl u' = false) (hH : H d = some u) (hG : G d = none ∨ G d = some u) (h0 : e.H0 d = none) (hge : ∀ o, e.G0 d ≠ some o) (hP : ∀ p ∈ e.P, p.1 ≠ d)
    (hs : ∀ (j : Nat) (v : V) (dv : DV), σ[j]? = some (some v) → ρ[j]? = some (some dv) → SlotOk K e (upd G d u') (upd H d u') v dv) : Rp K e (upd G d u') (upd H d u') σ ρ where
  le := fun b o h => by
    by_cases hb : b = d
    · subst hb; rw [upd_same] at h ⊢; exact h
    · rw [upd_ne hb] at h ⊢; exact rp.le b o h
  nt := fun b o h => by
    by_cases hb : b = d
    · subst hb; rw [upd_same] at h; cases h; exact hu'
    · rw [upd_ne hb] at h; exact rp.nt b o h
  bg := fun b o h m t => by
    have hb : b ≠ d := fun z => by rw [z, h0] at h; cases h
    rw [upd_ne hb]
    exact rp.bg b o h m t
  mt := fun b m => by
    by_cases hb : b = d
    · subst hb; rw [upd_same]; simp
    · rw [upd_ne hb]; exact rp.mt b m
  tb := fun b o h t => by
    by_cases hb : b = d
    · subst hb; rw [upd_same]; simp
    · rw [upd_ne hb]; exact rp.tb b o h t
  new := fun b h => by
    by_cases hb : b = d
    · subst hb; exact .inr h0
    · rw [upd_ne hb] at h; exact rp.new b h
  ge := fun b o h => by
    have hb : b ≠ d := fun z => by rw [z] at h; exact hge o h
    rw [upd_ne hb]
    exact rp.ge b o h
  pr := fun p hp => by
    rw [upd_ne (hP p hp), upd_ne (hP p hp)]
    exact rp.pr p hp
  tabs := ⟨rp.tabs.1, fun p hp => by
    obtain ⟨ps, k1, k2, k3⟩ := rp.tabs.2 p hp
    have n1 : p.1 ≠ d := fun z => by rw [z, hH] at k1; cases k1; cases hu
    refine ⟨ps, by rw [upd_ne n1]; exact k1, k2, fun pos cvv hcv => ?_⟩
    obtain ⟨c, e1, e2⟩ := k3 pos cvv hcv
    exact ⟨c, e1, by rw [upd_ne (fun z => by rw [z, hH] at e2; exact hu2 _ _ (Option.some.inj e2))]; exact e2⟩⟩
  len := rp.len
  slot := hs
  has := rp.has
  apart := rp.apart
theorem code_frz {c : Addr} {q : Str} : HO.frz od u ≠ LamX.CodeO c q := fun z => by unfold LamX.CodeO at z; cases z
theorem code_dK {c : Addr} {q : Str} {es : List (Key × V)} : HO.dK es ≠ LamX.CodeO c q := fun z => by unfold LamX.CodeO at z; cases z
/-- the slot's own dict is locked, and data from now on -/
theorem Rp.lockDic {es : List (Key × V)} {ds : List PyData} {kvs : List (PyData × PyData)} (rp : Rp K e G H σ ρ) (hσ : σ[i]? = some (some (.ref d))) (q : ρ[i]? = some (some (.ow (.dic false kvs)))) (hd : H d = some (.dK es)) (r : RDs K G (es.map (·.2)) ds) (ek : kvs = dicOf es ds) (od : Obj) :
    Rp K e (upd G d (.frz od (.dK es))) (upd H d (.frz od (.dK es))) σ (ρ.set i (some (.sh (.dict kvs)))) ∧ GE G (upd G d (.frz od (.dK es))) := by
  obtain ⟨d', ed, hG, h0, hP, _⟩ := rp.slot i _ _ hσ q
  cases ed
  have hi := rp.len' hσ
  have hge : ∀ o, e.G0 d ≠ some o := fun o z => by
    cases l : e.lk d with
    | false => have := (rp.ge d o z).1 l; rw [hG] at this; cases this
    | true => obtain ⟨ob, this⟩ := (rp.ge d o z).2 l; rw [hG] at this; cases this
  have rp1 : Rp K e G H σ (ρ.set i none) := rp.unset i
  have g : GE G (upd G d (.frz od (.dK es))) := ge_upd hG
  have rp2 := rp1.swap (u' := .frz od (.dK es)) rfl (fun _ _ => code_dK) rfl hd (.inl hG) h0 hge hP fun j v dv h1 h2 => by
    have hj : j ≠ i := fun z => by
      subst z
      rw [List.getElem?_set_self hi] at h2; cases h2
    rw [List.getElem?_set_ne (Ne.symm hj)] at h2
    have s := rp.slot j v dv h1 h2
    have na : ∀ a, v = .ref a → dv.oc? ≠ none → a ≠ d := fun a ev hn z => by
      rcases rp.apart j i v dv _ hj h1 (by rw [hσ, ev, z]) h2 q with k | k
      · exact hn k
      · simp [DV.oc?] at k
    refine s.mono g.rd (fun a ev hn nG => by rw [upd_ne (na a ev hn)]; exact nG) fun a u ev hn k => by rw [upd_ne (na a ev hn)]; exact k
  refine ⟨⟨rp2.le, rp2.nt, rp2.bg, rp2.mt, rp2.tb, rp2.new, rp2.ge, rp2.pr, rp2.tabs, by rw [List.length_set]; exact rp.len, fun j v dv h1 h2 => ?_, fun j dv h => ?_, fun j k v d1 d2 hjk h1 h2 h3 h4 => ?_⟩, g⟩
  · by_cases hj : j = i
    · subst hj
      rw [List.getElem?_set_self hi] at h2; cases h2
      rw [hσ] at h1; cases h1
      subst ek
      exact .dK (.inr ⟨od, upd_same⟩) (r.mono g.rd)
    · rw [List.getElem?_set_ne (Ne.symm hj)] at h2
      exact rp2.slot j v dv h1 (by rw [List.getElem?_set_ne (Ne.symm hj)]; exact h2)
  · by_cases hj : j = i
    · subst hj; exact ⟨_, hσ⟩
    · rw [List.getElem?_set_ne (Ne.symm hj)] at h; exact rp.has j dv h
  · have old : ∀ (m : Nat) (x : DV), (ρ.set i (some (DV.sh (.dict kvs))))[m]? = some (some x) → x.oc? = none ∨ ρ[m]? = some (some x) := fun m x hm => by
      by_cases z : m = i
      · subst z
        rw [List.getElem?_set_self hi] at hm; cases hm
        exact .inl rfl
      · rw [List.getElem?_set_ne (Ne.symm z)] at hm
        exact .inr hm
    rcases old j d1 h3 with z | q1
    · exact .inl z
    · rcases old k d2 h4 with z | q2
      · exact .inr z
      · exact rp.apart j k v d1 d2 hjk h1 h2 q1 q2
/-- and let go -/
theorem Rp.unlockDic (rp : Rp K e G H σ ρ) (hG : G d = some (.frz od u)) (hu : isTbl u = false) (h0 : e.H0 d = none) (hge : ∀ o, e.G0 d ≠ some o) (hP : ∀ p ∈ e.P, p.1 ≠ d) : Rp K e (upd G d u) (upd H d u) σ ρ :=
  rp.swap (u := .frz od u) rfl (fun _ _ => code_frz) hu (rp.le _ _ hG) (.inr hG) h0 hge hP fun j v dv h1 h2 => by
    have s := rp.slot j v dv h1 h2
    cases dv with
    | sh x => exact RD.unlock hG s
    | ow c =>
      obtain ⟨a, z1, z2, z3, z4, z5⟩ := s
      have na : a ≠ d := fun z => by rw [z, hG] at z2; cases z2
      exact ⟨a, z1, by rw [upd_ne na]; exact z2, z3, z4, z5.unlock hG na⟩
    | mu c =>
      obtain ⟨a, z1, z2, z3, z4, z5⟩ := s
      have na : a ≠ d := fun z => by rw [z, hG] at z2; cases z2
      exact ⟨a, z1, by rw [upd_ne na]; exact z2, z3, z4, z5.unlock hG na⟩
    | op a => exact s
    | bw j => exact s
end
section
variable {X : Cx} {cv : Str → Value} {W : WX}
/-! ### [.. for k in d ..], d the slot's own dict: locked, from then on data -/
def dLcK (i : Nat) (γ : DG) (c : DB) (δ : DE) (vs : List Nat) : DE := fun ρ => match ρ[i]? with
  | some (some (.ow (.dic false kvs))) => dLc (fun ρ1 => .ok (kvs.map (·.1)) ρ1) γ c δ vs (ρ.set i (some (.sh (.dict kvs))))
  | _ => .bad
theorem keys_rds {K : PySem.W.Frag} {G : Hp} (ks : List Key) : RDs K G (ks.map kV) (ks.map keyD) := by
  induction ks with
  | nil => exact .nil
  | cons k ks ih => exact .cons (by cases k; exact .int _; exact .str _) ih
theorem de_lcK {i : Nat} {elt tg iter : Expr} {ifs : List Expr} {scope : Scope} (own : List (Str × Nat)) {pos : Pos} {g : TG} {γ : DG} {c : DB} {δ : DE} (hc : X.calm = true) (hN : X.N.Nodup) (hv : PE X iter (tVar i)) (ok : BlkOk X.N X.env.scope scope own)
    (hg : ∀ (s : Shared) (H : Hp) (C : Addr) (cl : List (Str × Addr)) (fp : List Addr), PG (X.blk s H scope (compEnvC scope cl C X.env) fp) tg g) (hcg : CG X.K (own.map (·.2)) g γ)
    (ht : ∀ (s : Shared) (H : Hp) (C : Addr) (cl : List (Str × Addr)) (fp : List Addr), DTs (X.blk s H scope (compEnvC scope cl C X.env) fp) cv ifs c)
    (he : ∀ (s : Shared) (H : Hp) (C : Addr) (cl : List (Str × Addr)) (fp : List Addr), DEx (X.blk s H scope (compEnvC scope cl C X.env) fp) cv W0 elt δ) (hs : ∀ x, foldedSetIterable iter X.env x = pure x := by intro _; rfl) :
    DEx X cv W (.ListComp elt [⟨tg, iter, ifs, 0⟩] scope pos) (dLcK i γ c δ (own.map (·.2))) := PE_imp (pe_lock (pe_lc (tt := tB X.K cv W0 c) (te := tD X.K cv W0 δ) hc hN (pi_keys hv) ok hg ht he hs)) fun σ H Q ⟨e, G, ρ, rp, p⟩ => by
  unfold dLcK at p
  split at p
  · rename_i kvs q
    obtain ⟨v, hσ⟩ := rp.has i _ q
    obtain ⟨d, rfl, hG, h0, hP, o⟩ := rp.slot i v _ hσ q
    rcases o with ⟨_, es, ds, hd, r, ek⟩ | ⟨z, _⟩
    rotate_left
    · cases z
    refine ⟨d, .dK es, hd, trivial, fun od => ?_⟩
    have hge : ∀ o, e.G0 d ≠ some o := fun o z => by
      cases l : e.lk d with
      | false => have := (rp.ge d o z).1 l; rw [hG] at this; cases this
      | true => obtain ⟨ob, this⟩ := (rp.ge d o z).2 l; rw [hG] at this; cases this
    obtain ⟨rp1, ge1⟩ := rp.lockDic hσ q hd r ek od
    generalize hGL : upd G d (.frz od (.dK es)) = GL at rp1 ge1
    have dG : GL d = some (.frz od (.dK es)) := by rw [← hGL, upd_same]
    generalize hHL : upd H d (.frz od (.dK es)) = HL at rp1 ⊢
    have lz : ds.length = es.length := by rw [← r.length, List.length_map]
    have keysE : kvs.map (·.1) = (es.map (·.1)).map keyD := by
      rw [ek, List.map_fst_zip (by rw [List.length_map, lz]; exact Nat.le_refl _), List.map_map]
      rfl
    have hJ : ItOk X.K e GL (Itk d od es) (kvs.map (·.1)) := fun e' G' H' σ' ρ' rp' ge' => by
      have dH : H' d = some (.frz od (.dK es)) := rp'.le _ _ (ge' _ _ dG)
      have lk : (kvs.map (·.1)).length = es.length := by rw [keysE]; simp
      refine ⟨fun j x hx => ?_, dH, by rw [lk]; exact Nat.le_refl _⟩
      have hj : j < es.length := by
        rw [← lk]
        exact (List.getElem?_eq_some_iff.mp hx).1
      refine ⟨⟨dH, hj⟩, fun y H2 ⟨e2, k, w, hk, ey⟩ => ⟨G', by rw [e2]; exact rp', GE.refl G', ?_⟩⟩
      rw [keysE, List.getElem?_map, List.getElem?_map, hk] at hx
      cases hx
      rw [ey]
      cases k
      · exact .int _
      · exact .str _
    refine ⟨.ref d, hσ, d, od, rfl, .inl ⟨es, by rw [← hHL, upd_same], fun D hD => lc_loop (cv := cv) (W := W) (c := c) (δ := δ) (Q := fun v H' => H' d = some (.frz od (.dK es)) ∧ Q v (upd H' d (.dK es))) hcg rp1 hJ ?_ D hD⟩⟩
    unfold dLc at p
    rw [R.bind_ok] at p
    cases q2 : lcD γ c δ (own.map (·.2)) (kvs.map (·.1)) [] (wipeR (ρ.set i (some (.sh (.dict kvs)))) (own.map (·.2))) with
    | bad => rw [q2] at p; exact p.elim
    | exc c r => rw [q2] at p; exact p.elim
    | ok zs ρ2 =>
      rw [q2] at p
      dsimp only at p ⊢
      intro H' G' rp' ge' v hv
      have dG' := ge' _ _ dG
      refine ⟨rp'.le _ _ dG', p _ _ (rp'.unlockDic dG' rfl h0 hge hP) (fun b o z => ?_) v ?_⟩
      · rw [upd_ne (fun y => by rw [y, hG] at z; cases z)]
        exact ge' _ _ (ge1 _ _ z)
      · obtain ⟨a, z1, z2, z3, z4, z5, z6⟩ := hv
        have na : a ≠ d := fun z => by rw [z, dG'] at z2; cases z2
        exact ⟨a, z1, by rw [upd_ne na]; exact z2, z3, z4, z5.unlock dG' na, z6⟩
  · exact p.elim
end
end DL
end

section
set_option Elab.async false
set_option linter.all false
set_option maxRecDepth 100000
set_option maxHeartbeats 400000
/-! DL14: list.remove of texts, tuples repeated, a, b, .. = x, y, ... -/
namespace DL
open PySem PySem.Spec PyProof.Rows L2
variable [Tbl]
/-! ### list.remove -/
def eqS (z : Str) (v : Value) : Bool := match v with
  | .str y _ => y.cps.toList == z.cps.toList
  | _ => false
theorem eqS_gives {z : Str} {t : Tok} : ∀ {us : List Value} {ws : List Str}, StrsAre us ws → ∀ y ∈ us, MeetsSeq.EqGives y (.str z t) (eqS z y)
  | _, _, .nil => fun y hy => by cases hy
  | _, _, .cons w t' h => fun y hy => by
    rcases List.mem_cons.mp hy with e | e
    · subst e
      exact SeqRoads2.EqGives.str w z t' t
    · exact eqS_gives h y e
theorem strsAre_get {us : List Value} {ws : List Str} (h : StrsAre us ws) : us.length = ws.length ∧ ∀ (j : Nat) (w : Str), ws[j]? = some w → ∃ t, us[j]? = some (.str w t) := by
  induction h with
  | nil => exact ⟨rfl, fun j w e => by simp at e⟩
  | cons w t h ih =>
    refine ⟨by simp [ih.1], fun j w' e => ?_⟩
    cases j with
    | zero => simp at e; subst e; exact ⟨_, rfl⟩
    | succ j => exact ih.2 j w' (by simpa using e)
theorem cps_eq {a b : Str} : (a.cps.toList == b.cps.toList) = (a == b) := by
  by_cases h : a = b
  · subst h; simp
  · have : a.cps.toList ≠ b.cps.toList := fun z => h (by
      cases a; cases b
      congr 1
      exact Array.toList_inj.mp z)
    rw [beq_eq_false_iff_ne.mpr h, beq_eq_false_iff_ne.mpr this]
theorem erase_map : ∀ (l : List Str) (j : Nat), (l.map V.str).eraseIdx j = (l.eraseIdx j).map V.str
  | [], j => by simp
  | a :: r, 0 => by simp
  | a :: r, j + 1 => by simp [erase_map r j]
def rRemS : V → List V → Hp → VK → Prop := fun x xs H Q => ∃ (l : Addr) (ws : List Str) (z : Str), x = .ref l ∧ xs = [.str z] ∧ H l = some (.lst (ws.map V.str)) ∧ ws.idxOf z < ws.length ∧ Q .non (upd H l (.lst ((ws.eraseIdx (ws.idxOf z)).map V.str)))
theorem mt_removeS {X : Cx} : MtM X "list.remove" rRemS := by
  intro pins s σ H x xs v us Q I rx rxs ⟨l, ws, z, e1, e2, hH, hj, q⟩
  subst e1 e2
  cases rx
  obtain ⟨u, rfl, ru⟩ := rxs.one
  obtain ⟨t, rfl⟩ := ru
  obtain ⟨hz, its, n, r, hl, e⟩ := I.lstM hH
  have hi := r.strs
  obtain ⟨h1, h2⟩ := strsAre_get hi
  rw [List.length_map] at hl hz
  have hjl : ws.idxOf z < its.toArray.size := by rw [List.size_toArray]; omega
  refine call_meets PySem.F.slot_list_remove ⟨_, e, rfl⟩ PySem.F.entry_list_remove (PySem.F.args_list_remove_2 _ _) (MeetsSeq.list_remove l its.toArray n (.str z t) (eqS z) (fun y hy => eqS_gives hi y (by simpa using hy)) (ws.idxOf z) hjl ?_ ?_ (by rw [List.size_toArray]; omega)) ⟨e, ?_⟩
  · obtain ⟨tj, hjt⟩ := h2 (ws.idxOf z) z (by rw [List.getElem?_eq_getElem hj]; exact congrArg some (List.getElem_idxOf hj))
    obtain ⟨g1, g2⟩ := List.getElem?_eq_some_iff.mp hjt
    have e1 : its.toArray[ws.idxOf z] = .str z tj := by simpa using g2
    rw [e1]
    exact beq_self_eq_true _
  · intro m hm hmj
    have hmn : m < ws.length := by omega
    obtain ⟨tm, hmt⟩ := h2 m _ (List.getElem?_eq_getElem hmn)
    obtain ⟨g1, g2⟩ := List.getElem?_eq_some_iff.mp hmt
    have e1 : its.toArray[m] = .str ws[m] tm := by simpa using g2
    rw [e1]
    show (ws[m].cps.toList == z.cps.toList) = false
    rw [cps_eq]
    exact List.not_of_lt_findIdx (p := (· == z)) hmj |> fun h => by simpa using h
  · have rr := r.eraseIdx (ws.idxOf z)
    rw [erase_map] at rr
    refine ⟨.non, _, I.lset (its' := its.eraseIdx (ws.idxOf z)) (t' := s.toks) hH e ?_ rr ?_, rfl, q⟩
    · show its.toArray.eraseIdxIfInBounds (ws.idxOf z) = (its.eraseIdx (ws.idxOf z)).toArray
      rw [List.eraseIdxIfInBounds_toArray]
    · rw [List.length_map, List.length_eraseIdx]
      split <;> omega
def removeM : List PyData → List PyData → Option (List PyData × PyData)
  | c, [.str z] => match strL c with
    | some ws => if ws.idxOf z < ws.length then some ((ws.eraseIdx (ws.idxOf z)).map .str, .none) else none
    | none => none
  | _, _ => none
theorem ml_remove {X : Cx} : MutL X "list.remove" removeM := ⟨_, mt_removeS, fun G H a us xs c ds c' d Q le h r rd hm k => by
  unfold removeM at hm
  split at hm
  · split at hm
    · rename_i ws hw
      split at hm
      · rename_i hj
        cases hm
        have eu := strL_rds r hw
        subst eu
        cases rd with
        | cons r1 t =>
          cases t
          cases r1
          exact ⟨a, ws, _, rfl, rfl, h, hj, k .non _ (rds_strs _) .non⟩
      · cases hm
    · cases hm
  · cases hm⟩
/-! ### (..) * k -/
def repTP : PyData → PyData → Option DV
  | .tuple xs, .int k => if xs ≠ [] ∧ 2 ≤ k ∧ k ≤ 1000 ∧ xs.length ≤ 1000 then some (.sh (.tuple (List.replicate k.toNat xs).flatten)) else none
  | _, _ => none
theorem rds_rep {K : PySem.W.Frag} {G : Hp} {vs : List V} {ds : List PyData} (r : RDs K G vs ds) : ∀ n : Nat, RDs K G (List.replicate n vs).flatten (List.replicate n ds).flatten
  | 0 => .nil
  | n + 1 => by
    rw [List.replicate_succ, List.replicate_succ, List.flatten_cons, List.flatten_cons]
    exact r.append (rds_rep r n)
theorem od_repT {X : Cx} : OpD X (binaryOp .Mult) repTP := ⟨_, op_repT, fun e G H σ ρ x y a b c Q rp pa pb e1 k => by
  unfold repTP at e1
  split at e1
  · split at e1
    · rename_i xs n hq
      cases e1
      obtain ⟨l, vs, rfl, h1, g1, r1⟩ := pk_tup rp.le pa
      have := pk_int pb
      subst this
      refine ⟨l, n, vs, rfl, rfl, h1, fun z => hq.1 (r1.nil_iff.mp z), hq.2.1, hq.2.2.1, by rw [r1.length]; exact hq.2.2.2, fun p hp => ?_⟩
      have ge3 := ge_lay (o := HO.tup (List.replicate n.toNat vs).flatten) rp hp
      exact k _ _ _ (rp.lay hp rfl) ge3 (.tup upd_same ((rds_rep r1 _).mono ge3.rd))
    · cases e1
  · cases e1⟩
/-! ### a, b = x, y: what is made stays one's own -/
def flies : DV → Bool
  | .sh _ => true
  | .ow _ => true
  | _ => false
section
variable {K : PySem.W.Frag} {e : Ent} {G H : Hp} {σ : L2.St} {ρ : Rho} {cv : Str → Value} {W : WX}
/-- a value in flight stays while the next is made -/
theorem Rp.hold {x : DV} {v : V} (rp : Rp K e G H σ ρ) (hv : VOk K e G H σ ρ v x) (hx : flies x = true) : ∃ e', Rp K e' G H σ ρ ∧
    ∀ G' H' ρ', Rp K e' G' H' σ ρ' → GE G G' → Rp K e G' H' σ ρ' ∧ VOk K e G' H' σ ρ' v x ∧ ∀ (w : V) (y : DV), flies y = true → VOk K e' G' H' σ ρ' w y → VOk K e G' H' σ ρ' w y ∧ (x.oc? ≠ none → y.oc? ≠ none → v ≠ w) := by
  cases x with
  | mu c => cases hx
  | op a => cases hx
  | bw i => cases hx
  | sh d => exact ⟨e, rp, fun G' H' ρ' rp' ge => ⟨rp', RD.mono ge.rd hv, fun w y _ hw => ⟨hw, fun z => absurd rfl z⟩⟩⟩
  | ow c =>
    obtain ⟨a, ea, hG, h0, hP, o, hs⟩ := hv
    obtain ⟨u, hu, ht, _⟩ := o.there
    have rp' : Rp K (e.prot a u) G H σ ρ := ⟨rp.le, rp.nt, rp.bg, rp.mt, rp.tb, rp.new, rp.ge, fun q hq => (List.mem_cons.mp hq).elim (fun z => by rw [z]; exact ⟨hu, hG, h0, ht⟩) (rp.pr q), rp.tabs, rp.len, fun i v' dv h1 h2 => (rp.slot i v' dv h1 h2).prot fun b ev hd z => by
      subst z
      rw [ev, ← ea] at h1
      exact hd (hs i dv h2 h1), rp.has, rp.apart⟩
    refine ⟨e.prot a u, rp', fun G' H' ρ' rp2 ge => ?_⟩
    have p := rp2.pr (a, u) List.mem_cons_self
    refine ⟨rp2.unprot, ⟨a, ea, p.2.1, h0, hP, o.mono ge.rd fun w hw => by rw [hu] at hw; cases hw; exact p.1, fun j dv hj hσ => ?_⟩, fun w y hy hw => ?_⟩
    · cases z : dv.oc? with
      | none => rfl
      | some oc =>
        have s := rp2.slot j v dv hσ hj
        cases dv with
        | ow c' => obtain ⟨b, eb, _, _, q, _⟩ := s; rw [ea] at eb; cases eb; exact absurd rfl (q (a, u) List.mem_cons_self)
        | mu c' => obtain ⟨b, eb, _, _, q, _⟩ := s; rw [ea] at eb; cases eb; exact absurd rfl (q (a, u) List.mem_cons_self)
        | sh d => cases z
        | op a => cases z
        | bw i => cases z
    · cases y with
      | mu c => cases hy
      | op a => cases hy
      | bw i => cases hy
      | sh d => exact ⟨hw, fun _ z => absurd rfl z⟩
      | ow c' =>
        obtain ⟨b, eb, z1, z2, z3, z4, z5⟩ := hw
        refine ⟨⟨b, eb, z1, z2, fun q hq => z3 q (List.mem_cons_of_mem _ hq), z4, z5⟩, fun _ _ z => ?_⟩
        rw [ea, eb] at z
        cases z
        exact z3 (a, u) List.mem_cons_self rfl
theorem VOk.stored {x y : DV} {v w : V} {i : Nat} (hi : i < ρ.length) (hw : VOk K e G H σ ρ w y) (hy : flies y = true) (hd : x.oc? ≠ none → y.oc? ≠ none → v ≠ w) (hl : σ.length = ρ.length) : VOk K e G H (σ.set i (some v)) (ρ.set i (some x)) w y := by
  cases y with
  | mu c => cases hy
  | op a => cases hy
  | bw i => cases hy
  | sh d => exact hw
  | ow c =>
    obtain ⟨b, eb, z1, z2, z3, z4, z5⟩ := hw
    refine ⟨b, eb, z1, z2, z3, z4, fun j dv hj hσ => ?_⟩
    by_cases z : j = i
    · subst z
      rw [List.getElem?_set_self hi] at hj
      rw [List.getElem?_set_self (by omega)] at hσ
      cases hj
      cases hσ
      cases q : x.oc? with
      | none => rfl
      | some oc => exact absurd rfl (hd (by rw [q]; simp) (by simp [DV.oc?]))
    · rw [List.getElem?_set_ne (Ne.symm z)] at hj hσ
      exact z5 j dv hj hσ
theorem Post.ent {e' : Ent} {α : Type} {r : R α} {k k' : α → Rho → Hp → Hp → Prop} (p : Post K cv W e G σ r k) (h1 : ∀ H' G' ρ', Rp K e' G' H' σ ρ' → GE G G' → Rp K e G' H' σ ρ') (h : ∀ x H' G' ρ', Rp K e' G' H' σ ρ' → GE G G' → k x ρ' G' H' → k' x ρ' G' H') : Post K cv W e' G σ r k' := by
  cases r with
  | bad => exact p
  | exc c ρ' => exact fun H' G' rp ge => p H' G' (h1 _ _ _ rp ge) ge
  | ok x ρ' => exact fun H' G' rp ge => h x H' G' ρ' rp ge (p H' G' (h1 _ _ _ rp ge) ge)
end
def dPar2 (i j : Nat) (δ ε : DE) : DS := fun ρ => (δ ρ).bind fun x ρ1 => if flies x = true then (ε ρ1).bind fun y ρ2 => if flies y = true ∧ i < ρ2.length ∧ j < ρ2.length then .ok .nx ((ρ2.set i (some x)).set j (some y)) else .bad else .bad
def dPar3 (i j l : Nat) (δ ε ζ : DE) : DS := fun ρ => (δ ρ).bind fun x ρ1 => if flies x = true then (ε ρ1).bind fun y ρ2 => if flies y = true then (ζ ρ2).bind fun z ρ3 => if flies z = true ∧ i < ρ3.length ∧ j < ρ3.length ∧ l < ρ3.length then .ok .nx (((ρ3.set i (some x)).set j (some y)).set l (some z)) else .bad else .bad else .bad
theorem flies_bw {x : DV} (h : flies x = true) : ∀ j, x ≠ .bw j := fun j z => by subst z; cases h
section
variable {X : Cx} {cv : Str → Value} {W : WX}
theorem Post.toS {K : PySem.W.Frag} {e : Ent} {G : Hp} {σ : L2.St} {α : Type} {r : R α} {f : α → Rho → R SO} {D : Ends} (p : PostS K cv W e G (r.bind f) D) : Post K cv W e G σ r fun x ρ' G' _ => PostS K cv W e G' (f x ρ') D := by
  cases r with
  | bad => exact p
  | exc c ρ' => exact fun H' G' rp ge => p σ H' G' rp ge
  | ok x ρ' => exact fun H' G' rp ge => PostS.ge p ge
theorem ds_par2 {i j : Nat} {x y : Str} {a b : Expr} {δ ε : DE} {px py pt pos : Pos} {kt k2 pt2} (hc : X.calm = true) (hN : X.N.Nodup) (hij : i ≠ j) (ha : DEx X cv W a δ) (hb : DEx X cv W b ε) (hi : X.N[i]? = some x := by rfl) (hj : X.N[j]? = some y := by rfl)
    (hx : X.env.scope.names.lookup x = some .local := by rfl) (hy : X.env.scope.names.lookup y = some .local := by rfl) (hw : swappedStores [.Tuple [.Name x px, .Name y py] kt pt] (.Tuple [a, b] k2 pt2) X.env = pure (some [x, y]) := by rfl)
    (hs : swapsWithSole [.Tuple [.Name x px, .Name y py] kt pt] (.Tuple [a, b] k2 pt2) pos.line X.env = pure false := by rfl) (h1 : starEach (a :: [b]) X.env = (false, eval a X.env) :: starEach [b] X.env := by rfl) (h2 : starEach (b :: []) X.env = (false, eval b X.env) :: starEach [] X.env := by rfl) :
    DSx X cv W (.Assign [.Tuple [.Name x px, .Name y py] kt pt] (.Tuple [a, b] k2 pt2) pos) (dPar2 i j δ ε) := PS_imp (ps_par hc hN hi hj hij hx hy (pa_cons ha (pa_cons hb pa_nil h2) h1) hw hs) fun D σ H ⟨e, G, ρ, rp, p⟩ => by
  refine ⟨e, G, ρ, rp, (Post.toS p).imp fun x ρ1 G1 H1 rp1 ge1 p1 v hv => ?_⟩
  by_cases hx : flies x = true
  rotate_left
  · rw [if_neg hx] at p1; exact p1.elim
  rw [if_pos hx] at p1
  obtain ⟨e1, rp1', hold⟩ := rp1.hold hv hx
  refine ⟨e1, G1, ρ1, rp1', Post.ent (Post.toS p1) (fun H' G' ρ' r g => (hold G' H' ρ' r g).1) fun y H2 G2 ρ2 rp2' ge2 p2 w hw => ?_⟩
  obtain ⟨rp2, hv2, hd⟩ := hold G2 H2 ρ2 rp2' ge2
  by_cases hy : flies y = true ∧ i < ρ2.length ∧ j < ρ2.length
  rotate_left
  · rw [if_neg hy] at p2; exact p2.elim
  rw [if_pos hy] at p2
  obtain ⟨hy, li, lj⟩ := hy
  obtain ⟨hw2, dvw⟩ := hd w y hy hw
  have r1 := rp2.store li hv2 (flies_bw hx)
  have w1 := hw2.stored li hy dvw rp2.len (x := x) (v := v)
  exact ⟨v, w, rfl, p2 _ H2 G2 (r1.store (by rw [List.length_set]; exact lj) w1 (flies_bw hy)) (GE.refl G2)⟩
theorem ds_par3 {i j l : Nat} {x y z : Str} {a b c : Expr} {δ ε ζ : DE} {px py pz pt pos : Pos} {kt k2 pt2} (hc : X.calm = true) (hN : X.N.Nodup) (hij : i ≠ j) (hil : i ≠ l) (hjl : j ≠ l) (ha : DEx X cv W a δ) (hb : DEx X cv W b ε) (hcc : DEx X cv W c ζ) (hi : X.N[i]? = some x := by rfl) (hj : X.N[j]? = some y := by rfl) (hl : X.N[l]? = some z := by rfl)
    (hx : X.env.scope.names.lookup x = some .local := by rfl) (hy : X.env.scope.names.lookup y = some .local := by rfl) (hz : X.env.scope.names.lookup z = some .local := by rfl) (hw : swappedStores [.Tuple [.Name x px, .Name y py, .Name z pz] kt pt] (.Tuple [a, b, c] k2 pt2) X.env = pure (some [x, y, z]) := by rfl)
    (hs : swapsWithSole [.Tuple [.Name x px, .Name y py, .Name z pz] kt pt] (.Tuple [a, b, c] k2 pt2) pos.line X.env = pure false := by rfl) (h1 : starEach (a :: [b, c]) X.env = (false, eval a X.env) :: starEach [b, c] X.env := by rfl) (h2 : starEach (b :: [c]) X.env = (false, eval b X.env) :: starEach [c] X.env := by rfl) (h3 : starEach (c :: []) X.env = (false, eval c X.env) :: starEach [] X.env := by rfl) :
    DSx X cv W (.Assign [.Tuple [.Name x px, .Name y py, .Name z pz] kt pt] (.Tuple [a, b, c] k2 pt2) pos) (dPar3 i j l δ ε ζ) := PS_imp (ps_par3 hc hN hi hj hl hij hil hjl hx hy hz (pa_cons ha (pa_cons hb (pa_cons hcc pa_nil h3) h2) h1) hw hs) fun D σ H ⟨e, G, ρ, rp, p⟩ => by
  refine ⟨e, G, ρ, rp, (Post.toS p).imp fun x ρ1 G1 H1 rp1 ge1 p1 v hv => ?_⟩
  by_cases hx : flies x = true
  rotate_left
  · rw [if_neg hx] at p1; exact p1.elim
  rw [if_pos hx] at p1
  obtain ⟨e1, rp1', hold⟩ := rp1.hold hv hx
  refine ⟨e1, G1, ρ1, rp1', Post.ent (Post.toS p1) (fun H' G' ρ' r g => (hold G' H' ρ' r g).1) fun y H2 G2 ρ2 rp2' ge2 p2 w hw => ?_⟩
  by_cases hy : flies y = true
  rotate_left
  · rw [if_neg hy] at p2; exact p2.elim
  rw [if_pos hy] at p2
  obtain ⟨e2, rp2'', hold2⟩ := rp2'.hold hw hy
  refine ⟨e2, G2, ρ2, rp2'', Post.ent (Post.toS p2) (fun H' G' ρ' r g => (hold G' H' ρ' (hold2 G' H' ρ' r g).1 (ge2.trans g)).1) fun z H3 G3 ρ3 rp3'' ge3 p3 u hu => ?_⟩
  obtain ⟨rp3', hw3', hd2⟩ := hold2 G3 H3 ρ3 rp3'' ge3
  obtain ⟨rp3, hv3, hd⟩ := hold G3 H3 ρ3 rp3' (ge2.trans ge3)
  by_cases hz : flies z = true ∧ i < ρ3.length ∧ j < ρ3.length ∧ l < ρ3.length
  rotate_left
  · rw [if_neg hz] at p3; exact p3.elim
  rw [if_pos hz] at p3
  obtain ⟨hz, li, lj, ll⟩ := hz
  obtain ⟨hu3', dwu⟩ := hd2 u z hz hu
  obtain ⟨hu3, dvu⟩ := hd u z hz hu3'
  obtain ⟨hw3, dvw⟩ := hd w y hy hw3'
  have r1 := rp3.store li hv3 (flies_bw hx)
  have w1 := hw3.stored li hy dvw rp3.len (x := x) (v := v)
  have u1 := hu3.stored li hz dvu rp3.len (x := x) (v := v)
  have lj' : j < (ρ3.set i (some x)).length := by rw [List.length_set]; exact lj
  have r2 := r1.store lj' w1 (flies_bw hy)
  have u2 := u1.stored lj' hz dwu r1.len (x := y) (v := w)
  exact ⟨v, w, u, rfl, p3 _ H3 G3 (r2.store (by rw [List.length_set, List.length_set]; exact ll) u2 (flies_bw hz)) (GE.refl G3)⟩
theorem VOk.grow {K : PySem.W.Frag} {e : Ent} {G H H2 : Hp} {σ : L2.St} {ρ : Rho} {x : DV} {v : V} (hv : VOk K e G H σ ρ v x) (hx : flies x = true) (k : ∀ c o, H c = some o → H2 c = some o) : VOk K e G H2 σ ρ v x := by
  cases x with
  | mu c => cases hx
  | op a => cases hx
  | bw i => cases hx
  | sh d => exact hv
  | ow c => obtain ⟨a, h1, h2, h3, h4, h5, h6⟩ := hv; exact ⟨a, h1, h2, h3, h4, h5.mono (GE.refl G).rd fun u hu => k _ _ hu, h6⟩
theorem ds_parT2 {i j : Nat} {x y : Str} {a b : Expr} {δ ε : DE} {px py pt pos : Pos} {kt k2 pt2} (hc : X.calm = true) (hN : X.N.Nodup) (hij : i ≠ j) (ha : DEx X cv W a δ) (hb : DEx X cv W b ε) (hi : X.N[i]? = some x := by rfl) (hj : X.N[j]? = some y := by rfl)
    (gs : PGs X [.Name x px, .Name y py] (gCons (gName i) (gCons (gName j) gNil))) (hw : swappedStores [.Tuple [.Name x px, .Name y py] kt pt] (.Tuple [a, b] k2 pt2) X.env = pure none := by rfl)
    (hs : swapsWithSole [.Tuple [.Name x px, .Name y py] kt pt] (.Tuple [a, b] k2 pt2) pos.line X.env = pure false := by rfl) (h1 : starEach (a :: [b]) X.env = (false, eval a X.env) :: starEach [b] X.env := by rfl) (h2 : starEach (b :: []) X.env = (false, eval b X.env) :: starEach [] X.env := by rfl) 
    (hn : (assignEach [.Name x px, .Name y py] X.env).length = 2 := by rfl) (hst : (assignEach [.Name x px, .Name y py] X.env).findIdx? (·.1) = none := by rfl) (h1a : (assignEach [.Tuple [.Name x px, .Name y py] kt pt] X.env).map (·.2) = [assign (.Tuple [.Name x px, .Name y py] kt pt) X.env] := by rfl) :
    DSx X cv W (.Assign [.Tuple [.Name x px, .Name y py] kt pt] (.Tuple [a, b] k2 pt2) pos) (dPar2 i j δ ε) := PS_imp (ps_asg (pe_tup (pa_cons ha (pa_cons hb pa_nil h2) h1)) (pg_tup (n := 2) hc gs hn hst) hs hw h1a) fun D σ H ⟨e, G, ρ, rp, p⟩ => by
  refine ⟨e, G, ρ, rp, (Post.toS p).imp fun x ρ1 G1 H1 rp1 ge1 p1 v hv => ?_⟩
  by_cases hx : flies x = true
  rotate_left
  · rw [if_neg hx] at p1; exact p1.elim
  rw [if_pos hx] at p1
  obtain ⟨e1, rp1', hold⟩ := rp1.hold hv hx
  refine ⟨e1, G1, ρ1, rp1', Post.ent (Post.toS p1) (fun H' G' ρ' r g => (hold G' H' ρ' r g).1) fun y H2 G2 ρ2 rp2' ge2 p2 w hw => ?_⟩
  obtain ⟨rp2, hv2, hd⟩ := hold G2 H2 ρ2 rp2' ge2
  by_cases hy : flies y = true ∧ i < ρ2.length ∧ j < ρ2.length
  rotate_left
  · rw [if_neg hy] at p2; exact p2.elim
  rw [if_pos hy] at p2
  obtain ⟨hy, li, lj⟩ := hy
  obtain ⟨hw2, dvw⟩ := hd w y hy hw
  refine ⟨by rw [sizeLine_eq]; simp, fun q hq => ⟨q, _, rfl, .inl (.inl upd_same), rfl, v, _, rfl, w, _, rfl, rfl, ?_⟩⟩
  have kk : ∀ c o, H2 c = some o → upd H2 q (.tup [v, w]) c = some o := fun c o z => by rw [upd_ne (fun y => by rw [y, hq] at z; cases z)]; exact z
  have rp2 := rp2.alloc (o := .tup [v, w]) hq
  have hv2 := hv2.grow hx kk
  have hw2 := hw2.grow hy kk
  have r1 := rp2.store li hv2 (flies_bw hx)
  have w1 := hw2.stored li hy dvw rp2.len (x := x) (v := v)
  exact p2 _ _ G2 (r1.store (by rw [List.length_set]; exact lj) w1 (flies_bw hy)) (GE.refl G2)
theorem ds_parT3 {i j l : Nat} {x y z : Str} {a b c : Expr} {δ ε ζ : DE} {px py pz pt pos : Pos} {kt k2 pt2} (hc : X.calm = true) (hN : X.N.Nodup) (hij : i ≠ j) (hil : i ≠ l) (hjl : j ≠ l) (ha : DEx X cv W a δ) (hb : DEx X cv W b ε) (hcc : DEx X cv W c ζ) (hi : X.N[i]? = some x := by rfl) (hj : X.N[j]? = some y := by rfl) (hl : X.N[l]? = some z := by rfl)
    (gs : PGs X [.Name x px, .Name y py, .Name z pz] (gCons (gName i) (gCons (gName j) (gCons (gName l) gNil)))) (hw : swappedStores [.Tuple [.Name x px, .Name y py, .Name z pz] kt pt] (.Tuple [a, b, c] k2 pt2) X.env = pure none := by rfl)
    (hs : swapsWithSole [.Tuple [.Name x px, .Name y py, .Name z pz] kt pt] (.Tuple [a, b, c] k2 pt2) pos.line X.env = pure false := by rfl) (h1 : starEach (a :: [b, c]) X.env = (false, eval a X.env) :: starEach [b, c] X.env := by rfl) (h2 : starEach (b :: [c]) X.env = (false, eval b X.env) :: starEach [c] X.env := by rfl) (h3 : starEach (c :: []) X.env = (false, eval c X.env) :: starEach [] X.env := by rfl) 
    (hn : (assignEach [.Name x px, .Name y py, .Name z pz] X.env).length = 3 := by rfl) (hst : (assignEach [.Name x px, .Name y py, .Name z pz] X.env).findIdx? (·.1) = none := by rfl) (h1a : (assignEach [.Tuple [.Name x px, .Name y py, .Name z pz] kt pt] X.env).map (·.2) = [assign (.Tuple [.Name x px, .Name y py, .Name z pz] kt pt) X.env] := by rfl) :
    DSx X cv W (.Assign [.Tuple [.Name x px, .Name y py, .Name z pz] kt pt] (.Tuple [a, b, c] k2 pt2) pos) (dPar3 i j l δ ε ζ) := PS_imp (ps_asg (pe_tup (pa_cons ha (pa_cons hb (pa_cons hcc pa_nil h3) h2) h1)) (pg_tup (n := 3) hc gs hn hst) hs hw h1a) fun D σ H ⟨e, G, ρ, rp, p⟩ => by
  refine ⟨e, G, ρ, rp, (Post.toS p).imp fun x ρ1 G1 H1 rp1 ge1 p1 v hv => ?_⟩
  by_cases hx : flies x = true
  rotate_left
  · rw [if_neg hx] at p1; exact p1.elim
  rw [if_pos hx] at p1
  obtain ⟨e1, rp1', hold⟩ := rp1.hold hv hx
  refine ⟨e1, G1, ρ1, rp1', Post.ent (Post.toS p1) (fun H' G' ρ' r g => (hold G' H' ρ' r g).1) fun y H2 G2 ρ2 rp2' ge2 p2 w hw => ?_⟩
  by_cases hy : flies y = true
  rotate_left
  · rw [if_neg hy] at p2; exact p2.elim
  rw [if_pos hy] at p2
  obtain ⟨e2, rp2'', hold2⟩ := rp2'.hold hw hy
  refine ⟨e2, G2, ρ2, rp2'', Post.ent (Post.toS p2) (fun H' G' ρ' r g => (hold G' H' ρ' (hold2 G' H' ρ' r g).1 (ge2.trans g)).1) fun z H3 G3 ρ3 rp3'' ge3 p3 u hu => ?_⟩
  obtain ⟨rp3', hw3', hd2⟩ := hold2 G3 H3 ρ3 rp3'' ge3
  obtain ⟨rp3, hv3, hd⟩ := hold G3 H3 ρ3 rp3' (ge2.trans ge3)
  by_cases hz : flies z = true ∧ i < ρ3.length ∧ j < ρ3.length ∧ l < ρ3.length
  rotate_left
  · rw [if_neg hz] at p3; exact p3.elim
  rw [if_pos hz] at p3
  obtain ⟨hz, li, lj, ll⟩ := hz
  obtain ⟨hu3', dwu⟩ := hd2 u z hz hu
  obtain ⟨hu3, dvu⟩ := hd u z hz hu3'
  obtain ⟨hw3, dvw⟩ := hd w y hy hw3'
  refine ⟨by rw [sizeLine_eq]; simp, fun q hq => ⟨q, _, rfl, .inl (.inl upd_same), rfl, v, _, rfl, w, _, rfl, u, _, rfl, rfl, ?_⟩⟩
  have kk : ∀ c o, H3 c = some o → upd H3 q (.tup [v, w, u]) c = some o := fun c o z => by rw [upd_ne (fun y => by rw [y, hq] at z; cases z)]; exact z
  have rp3 := rp3.alloc (o := .tup [v, w, u]) hq
  have hv3 := hv3.grow hx kk
  have hw3 := hw3.grow hy kk
  have hu3 := hu3.grow hz kk
  have r1 := rp3.store li hv3 (flies_bw hx)
  have w1 := hw3.stored li hy dvw rp3.len (x := x) (v := v)
  have u1 := hu3.stored li hz dvu rp3.len (x := x) (v := v)
  have lj' : j < (ρ3.set i (some x)).length := by rw [List.length_set]; exact lj
  have r2 := r1.store lj' w1 (flies_bw hy)
  have u2 := u1.stored lj' hz dwu r1.len (x := y) (v := w)
  exact p3 _ _ G3 (r2.store (by rw [List.length_set, List.length_set]; exact ll) u2 (flies_bw hz)) (GE.refl G3)
end
end DL
end

section
set_option Elab.async false
set_option linter.all false
set_option maxRecDepth 100000
set_option maxHeartbeats 2000000
/-! DH1: iterators that end while an exception is handled. -/
namespace DH
open PySem PySem.Spec PyProof.Rows HotX
section
variable {prog : Program} {w : World} {A : Around} {E : Value → Shared → Prop} {s : Shared}
/-- old objects stay -/
abbrev Keeps (h h' : Heap) : Prop := ∀ b o, h.get? b = some o → h'.get? b = some o
def IsStop (h : Heap) (e : Addr) : Prop := ∃ o, h.get? e = some o ∧ o.cls = .type "StopIteration"
theorem stop_hot {α : Type} {x1 : Addr} {Q : α → Shared → Prop} (hot : HotAt A x1 s.heap) (hE : ∀ h' e, Keeps s.heap h' → IsStop h' e → E (.ref e) { s with heap := h' }) :
    wpAny (model prog w) A (newExc (.type "StopIteration") [] >>= fun v => (raiseNew v : Sem α)) Q E s := by
  obtain ⟨hh, o1, vs1, h1, d1, c1⟩ := hot
  refine wpAny_bind ?_
  simp only [newExc, newTuple]
  refine wpAny_bind (wpAny_newObj_type ?_ (by size_fits))
  refine wpAny_bind (m := firstArgMember _ _) (wpAny_of_eq (a := Value.none) (by first | rfl | (simp only [firstArgMember]; rfl)) ?_)
  refine wpAny_newObj_type ?_ (by size_fits)
  have k2 : ∀ {p q ob : Obj} {b : Addr}, s.heap.get? b = some ob → ((s.heap.push p).push q).get? b = some ob := fun e => Heap.get?_push_of_some _ (Heap.get?_push_of_some _ e)
  refine raiseNew_hot ⟨hh, o1, vs1, k2 h1, d1, c1⟩ (Nat.ne_of_lt (Heap.lt_size (Heap.get?_push_of_some _ h1))) (Heap.get?_push_size _ rfl) rfl (by first | (simp; done) | (simp; omega) | (simp only [Array.size_append]; simp; omega)) ?_
  refine hE _ _ (fun b o e => ?_) ⟨_, Heap.get?_update_self _ (Heap.get?_push_size _ rfl) rfl, rfl⟩
  rw [Heap.get?_update_other _ _ (Nat.ne_of_gt (Heap.lt_size (Heap.get?_push_of_some _ e)))]
  exact k2 e
theorem hot_upd {x1 it : Addr} {f : Obj → Obj} {h : Heap} (hot : HotAt A x1 h) (hne : it ≠ x1) : HotAt A x1 (h.update it f) := by
  obtain ⟨hh, o1, vs1, h1, d1, c1⟩ := hot
  exact ⟨hh, o1, vs1, by rw [Heap.get?_update_other _ _ hne]; exact h1, d1, c1⟩
theorem hot_keep {x1 : Addr} {h h' : Heap} (hot : HotAt A x1 h) (k : ∀ o, h.get? x1 = some o → h'.get? x1 = some o) : HotAt A x1 h' := by
  obtain ⟨hh, o1, vs1, h1, d1, c1⟩ := hot
  exact ⟨hh, o1, vs1, k _ h1, d1, c1⟩
/-- the handled exception is no iterator -/
theorem HotAt.nef {x1 a : Addr} {o : Obj} (hot : HotAt A x1 s.heap) (ho : s.heap.get? a = some o) (hd : ∀ vs, o.data = .fields vs → vs[2]? ≠ some .none) : a ≠ x1 := fun z => by
  obtain ⟨_, o1, vs1, h1, d1, c1⟩ := hot
  rw [z, h1] at ho
  cases ho
  exact hd _ d1 c1
theorem seq_end {it l x1 : Addr} {i : Nat} {o ol : Obj} {nl : Nat} {items : Array Value} {Q : PySem.Fin → Shared → Prop} (hot : HotAt A x1 s.heap) (ho : s.heap.get? it = some o) (hd : o.data = .fields #[.ref l, .int i 0])
    (hol : s.heap.get? l = some ol) (hdl : ol.data = .seq items nl) (hx : items[i]? = none) (hE : ∀ h' e, Heap.ExtBut it s.heap h' → IsStop h' e → E (.ref e) { s with heap := h' }) :
    wpAny (model prog w) A (Builtin.«list_iterator.__next__» ⟨[.ref it], []⟩) Q E s := by
  have hne : it ≠ x1 := HotAt.nef hot ho fun vs h => by rw [hd] at h; cases h; simp
  show wpAny _ _ (field (.ref it) 0 >>= _) _ _ s
  refine wpAny_bind (wpAny_field ho hd (x := .ref l) rfl ?_)
  show wpAny _ _ (if (Value.ref l == Value.none) = true then _ else _) _ _ s
  rw [if_neg (fun z => Bool.noConfusion z)]
  show wpAny _ _ (field (.ref it) 1 >>= _) _ _ s
  refine wpAny_bind (wpAny_field ho hd (x := .int i 0) rfl (wpAny_bind (wpAny_seqItems hol hdl ?_)))
  simp only [Int.toNat_natCast, hx]
  refine wpAny_bind (wpAny_rule (wpAny_bind (wpAny_setField ho hd (by simp) ?_)))
  exact stop_hot (hot_upd hot hne) fun h' e k st => hE h' e (fun b ob hb q => k _ _ (by rw [Heap.get?_update_other _ _ (Ne.symm hb)]; exact q)) st
theorem nextOf_list_hot {it l x1 : Addr} {i : Nat} {items : Array Value} {Q : Value → Shared → Prop} (hot : HotAt A x1 s.heap) (hit : s.heap.IsListIter it l i) (hl : s.heap.IsList l items) (hx : items[i]? = none)
    (hE : ∀ h' e, Heap.ExtBut it s.heap h' → IsStop h' e → E (.ref e) { s with heap := h' }) : wpAny (model prog w) A (Builtin.SmallTypes.nextOf (.ref it)) Q E s := by
  obtain ⟨o, ho, hc, hd⟩ := id hit
  obtain ⟨ol, hol, _, nl, hdl⟩ := hl
  unfold Builtin.SmallTypes.nextOf
  exact wpAny_bind (wpAny_callSpecial?_slot (name := Str.ofString "__next__") hit.typeIs slot_listiter_next (wpAny_call_entry slot_listiter_next hit.typeIs entry_listiter_next (seq_end hot ho hd hol hdl hx hE) (args_listiter_next _)))
end
end DH
end

section
set_option Elab.async false
set_option linter.all false
set_option maxRecDepth 100000
set_option maxHeartbeats 2000000
/-! DH2: zip and unpacking while an exception is handled. -/
namespace DH
open PySem PySem.Spec PyProof.Rows HotX
section
variable {prog : Program} {w : World} {A : Around} {E : Value → Shared → Prop} {s : Shared}
/-- but for the four objects of the zip -/
def ZKeeps (z TO i1 i2 : Addr) (h h' : Heap) : Prop := ∀ c o, c ≠ z → c ≠ TO → c ≠ i1 → c ≠ i2 → h.get? c = some o → h'.get? c = some o
/-- the first list is spent: zip's next raises -/
theorem zip_stop {z TI TO i1 i2 l1 l2 x1 : Addr} {k1 : Nat} {xs : Array Value} {Q : PySem.Fin → Shared → Prop} (hot : HotAt A x1 s.heap) (nz : z ≠ x1) (D : ZipApart z TI TO i1 i2 l1 l2) (hz : IsZip s.heap z TI TO .none)
    (hTI : IsPair s.heap TI (.ref i1) (.ref i2)) (h1 : s.heap.IsListIter i1 l1 k1) (hl1 : s.heap.IsList l1 xs) (hx : xs[k1]? = none) (hE : ∀ h' e, ZKeeps z TO i1 i2 s.heap h' → IsStop h' e → E (.ref e) { s with heap := h' }) :
    wpAny (model prog w) A (Builtin.«zip.__next__» ⟨[.ref z], []⟩) Q E s := by
  show wpAny _ _ (field (.ref z) 2 >>= _) _ _ _
  refine wpAny_bind (wpAny_field hz rfl (x := .bool false) rfl (show wpAny _ _ (field (.ref z) 3 >>= _) _ _ _ from wpAny_bind (wpAny_field hz rfl (x := .ref TI) rfl (wpAny_bind (wpAny_seqItems hTI rfl ?_)))))
  show wpAny _ _ (Builtin.SmallTypes.ownedTupleIsFree (.ref z) >>= _) _ _ _
  unfold Builtin.SmallTypes.ownedTupleIsFree
  refine wpAny_bind (wpAny_bind (wpAny_field hz rfl (x := .none) rfl (wpAny_pure ?_)))
  simp only [if_true]
  refine wpAny_bind (wpAny_rule (wpAny_bind (wpAny_field hz rfl (x := .ref TO) rfl (wpAny_bind (wpAny_setField_rec hz (by simp) fun g1 z1 b1 => wpAny_bind ?_)))))
  have z1 : IsZip g1 z TI TO .ellipsis := z1
  simp only [List.zipIdx_cons, List.zipIdx_nil, List.forIn_cons, List.forIn_nil]
  refine wpAny_bind (wpAny_bind (wpAny_onRaise (show wpAny _ _ (Builtin.SmallTypes.nextOf (.ref i1) >>= _) _ _ _ from wpAny_bind ?_)))
  have hot1 : HotAt A x1 g1 := hot_keep hot fun o e => b1.extBut _ _ (Ne.symm nz) e
  refine nextOf_list_hot hot1 (h1.extBut b1.extBut D.i1z) (hl1.extBut b1.extBut D.l1z) hx fun g2 e b2 ⟨oe, e1, e2⟩ => ?_
  have z2 : IsZip g2 z TI TO .ellipsis := b2 _ _ D.i1z.symm z1
  have ne : e ≠ z := fun q => by
    rw [q, z2] at e1
    cases e1
    simp at e2
  exact wpAny_setField_rec z2 (by simp) fun g3 _ b3 => hE g3 e (fun c o c1 _ c3 _ q => b3.extBut _ _ c1 (b2 _ _ c3 (b1.extBut _ _ c1 q))) ⟨oe, b3.extBut _ _ ne e1, e2⟩
theorem pyNext_zip_hot {z TI TO i1 i2 l1 l2 x1 : Addr} {k1 : Nat} {xs : Array Value} {Q : Option Value → Shared → Prop} (hot : HotAt A x1 s.heap) (D : ZipApart z TI TO i1 i2 l1 l2) (hz : IsZip s.heap z TI TO .none)
    (hTI : IsPair s.heap TI (.ref i1) (.ref i2)) (h1 : s.heap.IsListIter i1 l1 k1) (hl1 : s.heap.IsList l1 xs) (hx : xs[k1]? = none) (hQ : ∀ h', ZKeeps z TO i1 i2 s.heap h' → Q none { s with heap := h' }) : wpAny (model prog w) A (pyNext (.ref z)) Q E s := by
  have hT : s.TypeIs (.ref z) "zip" := ⟨_, hz, rfl⟩
  have nz : z ≠ x1 := HotAt.nef hot hz fun vs h => by cases h; simp
  unfold pyNext
  refine wpAny_bind (wpAny_attempt (wpAny_callSpecial?_slot (name := Str.ofString "__next__") hT F.slot_zip_next (wpAny_call_entry F.slot_zip_next hT F.entry_zip_next (zip_stop hot nz D hz hTI h1 hl1 hx fun h' e k he => ?_) (F.args_zip_next_1 _))))
  exact wpAny_bind (wpAny_isInstance (T := "StopIteration") (b := true) he isSubtype_stop (wpAny_pure (hQ _ k)))
theorem pyNext_tuple_hot {it t x1 : Addr} {i : Nat} {items : Array Value} {Q : Option Value → Shared → Prop} (hot : HotAt A x1 s.heap) (hit : IsTupIter s.heap it t i) (ht : IsTup s.heap t items) (hx : items[i]? = none)
    (hQ : ∀ h', Heap.ExtBut it s.heap h' → Q none { s with heap := h' }) : wpAny (model prog w) A (pyNext (.ref it)) Q E s := by
  obtain ⟨o, ho, hc, hd⟩ := id hit
  obtain ⟨ol, hol, _, nl, hdl⟩ := ht
  have hne : it ≠ x1 := HotAt.nef hot ho fun vs h => by rw [hd] at h; cases h; simp
  unfold pyNext
  refine wpAny_bind (wpAny_attempt (wpAny_callSpecial?_slot (name := Str.ofString "__next__") hit.typeIs slot_tupleiter_next (wpAny_call_entry slot_tupleiter_next hit.typeIs entry_tupleiter_next ?_ (args_tupleiter_next _))))
  show wpAny _ _ (field (.ref it) 0 >>= _) _ _ s
  refine wpAny_bind (wpAny_field ho hd (x := .ref t) rfl (show wpAny _ _ (if (Value.ref t == Value.none) = true then _ else _) _ _ s from ?_))
  rw [if_neg (fun z => Bool.noConfusion z)]
  refine wpAny_bind (wpAny_field ho hd (x := .int i 0) rfl (wpAny_bind (wpAny_seqItems hol hdl ?_)))
  simp only [Int.toNat_natCast, hx]
  refine wpAny_bind (wpAny_rule (wpAny_bind (wpAny_setField ho hd (by simp) (stop_hot (hot_upd (A := A) hot hne) fun h' e k st => ?_))))
  refine wpAny_bind (wpAny_isInstance (T := "StopIteration") (b := true) st isSubtype_stop (wpAny_pure (hQ _ fun b ob hb q => k _ _ ?_)))
  rw [Heap.get?_update_other _ _ (Ne.symm hb)]
  exact q
theorem unpack_hot {env : Env} {elts : List Expr} {kk : Nat} {pos : Pos} {t x1 : Addr} {items : Array Value} {Q : Unit → Shared → Prop} (hot : HotAt A x1 s.heap) (ht : IsTup s.heap t items) (hn : (assignEach elts env).length = items.size)
    (hstar : (assignEach elts env).findIdx? (·.1) = none) (h : ∀ h', Heap.ExtBut s.heap.objs.size s.heap h' → wpAny (model prog w) A (assignInOrder ((assignEach elts env).map (·.2)) items.toList) Q E { s with heap := h' }) :
    wpAny (model prog w) A (assign (.Tuple elts kk pos) env (.ref t)) Q E s := by
  rw [assign_Tuple]
  refine wpAny_bind (wpAny_standAt ?_)
  unfold unpack
  rw [hn, hstar]
  refine wpAny_bind (wpAny_holding ?_)
  have hlt : t ≠ s.heap.objs.size := by
    obtain ⟨o, ho, _⟩ := ht
    exact Nat.ne_of_lt (Heap.lt_size ho)
  have nx : ∀ {o : Obj}, s.heap.get? x1 = some o → x1 ≠ s.heap.objs.size := fun e => Nat.ne_of_lt (Heap.lt_size e)
  unfold unpackItems notIterableAtAll
  refine wpAny_bind (wpAny_bind (wpAny_specialOf ht.typeIs slot_tuple_iter.lookup (wpAny_pure ?_)))
  simp only [Bool.false_eq_true, if_false]
  refine wpAny_bind (wpAny_holding (iter_tuple ht (wpAny_bind (wpAny_holding (draw_tuple hlt items.size 0 _ _ ⟨_, Heap.get?_push_size _ rfl, rfl, rfl⟩ (ht.push _) (by omega) fun g1 it1 b1 => ?_)))))
  rw [List.drop_zero, List.take_of_length_le (by simp), if_neg (by simp)]
  refine wpAny_bind (wpAny_holding (pyNext_tuple_hot (x1 := x1) (hot_keep hot fun o e => b1.extBut _ _ (nx e) (Heap.get?_push_of_some _ e)) it1 ((ht.push _).extBut b1.extBut hlt) (by simp) fun g2 b2 => ?_))
  simp only [Option.isSome_none, Bool.false_eq_true, if_false]
  exact wpAny_pure (h g2 fun b o hb e => b2 b o hb (b1.extBut b o hb (Heap.get?_push_of_some _ e)))
end
open L2 L2H
theorem pg_tupH {X : Cx} {es : List Expr} {k : Nat} {t : TGs} {n : Nat} {pos : Pos} (hc : HotC X) (h : PGs X es t) (hn : (assignEach es X.env).length = n := by rfl) (hst : (assignEach es X.env).findIdx? (·.1) = none := by rfl) :
    PG X (.Tuple es k pos) (gTup X.K n t) := ⟨fun pins s σ H v u Q I r ⟨a, xs, e1, hq, hl, hw⟩ => by
  subst e1
  cases r
  obtain ⟨its, rv, ht, hz⟩ := I.tuple hq
  obtain ⟨x1, hot⟩ := hc.at I
  refine unpack_hot hot ht (by simp [hn, ← hl, rv.length]) hst fun h' hx => h.run pins _ σ H xs _ Q (I.kept (t' := s.toks) fun b o e => hx b o (Nat.ne_of_lt (Heap.lt_size e)) e) (by simpa using rv) hw⟩
end DH
end

section
set_option Elab.async false
set_option linter.all false
set_option maxRecDepth 100000
set_option maxHeartbeats 300000
/-! DH3: [w for w, g in zip(words, marks) if g] while an exception is handled. -/
namespace DH
open PySem PySem.Spec PyProof.Rows HotX L2 L2H
def pick : List Str → List Bool → List Str
  | w :: ws, b :: bs => if b = true then w :: pick ws bs else pick ws bs
  | _, _ => []
theorem pick_snoc : ∀ {ws : List Str} {bs : List Bool} {i : Nat} {w : Str} {b : Bool}, ws[i]? = some w → bs[i]? = some b → pick (ws.take (i + 1)) (bs.take (i + 1)) = pick (ws.take i) (bs.take i) ++ if b = true then [w] else []
  | [], _, _, _, _, h, _ => by simp at h
  | _ :: _, [], _, _, _, _, h => by simp at h
  | v :: ws, c :: bs, 0, w, b, h1, h2 => by
    simp at h1 h2
    subst h1 h2
    cases c <;> simp [pick]
  | v :: ws, c :: bs, i + 1, w, b, h1, h2 => by
    have ih := pick_snoc (ws := ws) (bs := bs) (i := i) (w := w) (b := b) (by simpa using h1) (by simpa using h2)
    cases c <;> simp [pick, ih]
/-- the handled exception stands, wherever the context holds -/
def Hotd (X : Cx) : Prop := ∀ (pins : List (Addr × Obj)) (σ : L2.St) (H : Hp) (s : Shared), Inv X pins σ H s → ∃ x1, HotAt X.A x1 s.heap
theorem hotd_blk {X : Cx} {pins : List (Addr × Obj)} {σ : L2.St} {H : Hp} {s : Shared} {scope : Scope} {cenv : Env} {fp : List Addr} (hc : HotC X) (I : Inv X pins σ H s) (hf : ∀ b ∈ fp, FpOk X pins H b) : Hotd (X.blk s H scope cenv fp) := fun pins' σ' H' s' I' => by
  obtain ⟨p, ⟨hh, v1, e1, c1⟩, hp⟩ := hc
  have P1 := I.pin p (List.mem_append_left _ hp)
  exact ⟨p.1, hh, p.2, v1, I'.base.keep p.1 p.2 P1.1 P1.2.1 (fun hm => (List.mem_cons.mp (I.stkSub p.1 hm)).elim P1.2.2.1 P1.2.2.2.1) (fun hm => (hf p.1 hm).2.2.2.2.2 p (List.mem_append_left _ hp) rfl), e1, c1⟩
theorem pg_tupD {X : Cx} {es : List Expr} {k : Nat} {t : TGs} {n : Nat} {pos : Pos} (hc : Hotd X) (h : PGs X es t) (hn : (assignEach es X.env).length = n := by rfl) (hst : (assignEach es X.env).findIdx? (·.1) = none := by rfl) :
    PG X (.Tuple es k pos) (gTup X.K n t) := ⟨fun pins s σ H v u Q I r ⟨a, xs, e1, hq, hl, hw⟩ => by
  subst e1
  cases r
  obtain ⟨its, rv, ht, hz⟩ := I.tuple hq
  obtain ⟨x1, hot⟩ := hc _ _ _ _ I
  refine unpack_hot hot ht (by simp [hn, ← hl, rv.length]) hst fun h' hx => h.run pins _ σ H xs _ Q (I.kept (t' := s.toks) fun b o e => hx b o (Nat.ne_of_lt (Heap.lt_size e)) e) (by simpa using rv) hw⟩
/-- what the comprehension makes of two lists -/
def tPick (K : PySem.W.Frag) (ta : TA) : TE := fun σ H Q => ta σ H fun vs H1 => ∃ a b ws bs, vs = [.ref a, .ref b] ∧ SqL K H1 a (ws.map V.str) ∧ SqL K H1 b (bs.map V.bl) ∧ ws.length = bs.length ∧ ws.length < sizeLine ∧
  ∀ D H2, (∀ c o, H1 c = some o → H2 c = some o) → H1 D = none → H2 D = some (.lst ((pick ws bs).map V.str)) → Q (.ref D) H2
theorem pick_length : ∀ (ws : List Str) (bs : List Bool), (pick ws bs).length ≤ ws.length
  | [], _ => by simp [pick]
  | _ :: _, [] => by simp [pick]
  | w :: ws, b :: bs => by
    have := pick_length ws bs
    cases b <;> simp [pick] <;> omega
theorem pe_pick {X : Cx} {e1 e2 : Expr} {ta : TA} {wn gn : Str} {iw ig kk : Nat} {own : List (Str × Nat)} {scope : Scope} {p1 p2 p3 p4 pz zpos tpos pos : Pos} (hc : HotC X) (hN : X.N.Nodup) (hg : Gl X "zip") (hm : X.mg "zip" = none) (ha : PA X [e1, e2] ta)
    (ok : BlkOk X.N X.env.scope scope own) (hown : own.map (·.2) = [iw, ig]) (hne : iw ≠ ig) (hiw : iw < X.N.length) (hig : ig < X.N.length)
    (hgs : ∀ (s : Shared) (H : Hp) (C : Addr) (cl : List (Str × Addr)) (fp : List Addr), PGs (X.blk s H scope (compEnvC scope cl C X.env) fp) [.Name wn p2, .Name gn p3] (gCons (gName iw) (gCons (gName ig) gNil)))
    (ht : ∀ (s : Shared) (H : Hp) (C : Addr) (cl : List (Str × Addr)) (fp : List Addr), PTs (X.blk s H scope (compEnvC scope cl C X.env) fp) [.Name gn p4] (tB (tVar ig)))
    (he : ∀ (s : Shared) (H : Hp) (C : Addr) (cl : List (Str × Addr)) (fp : List Addr), PE (X.blk s H scope (compEnvC scope cl C X.env) fp) (.Name wn p1) (tVar iw))
    (hs : ∀ x, foldedSetIterable (.Call (.Name "zip" pz) [e1, e2] [] zpos) X.env x = pure x := by intro _; rfl)
    (hst : starEach [e1, e2] X.env = (false, eval e1 X.env) :: starEach [e2] X.env := by rfl) (hpl : (backTo zpos (starEach [e2] X.env)).any (·.1) = false := by rfl)
    (hn2 : ∀ env, (assignEach [.Name wn p2, .Name gn p3] env).length = 2 := by intro _; rfl) (hst2 : ∀ env, (assignEach [.Name wn p2, .Name gn p3] env).findIdx? (·.1) = none := by intro _; rfl) :
    PE X (.ListComp (.Name wn p1) [⟨.Tuple [.Name wn p2, .Name gn p3] kk tpos, .Call (.Name "zip" pz) [e1, e2] [] zpos, [.Name gn p4], 0⟩] scope pos) (tPick X.K ta) := by
  refine ⟨fun pins s σ H Q I h => ?_⟩
  have hfree : ∀ y ∈ scope.names, y.2 = .free → ∃ c, X.env.cells.lookup y.1 = some c := fun y hy e => (ok.free y hy e).elim (fun k => I.ok.has _ (.inl k)) fun k => I.ok.has _ (.inr k)
  rw [eval_ListComp]
  refine wpAny_comprehension_free (use := none) rfl hs (closure_ok hfree) ok.kind (fun y hy e => by rw [ok.uniq y hy]; exact congrArg some e) ?_
  refine Call_ (ld_blt I hg hm PyProof.Rows.boot_zip (PyProof.Rows.callWith_type1 (thn (ha.run zpos pins s σ H _ I h) fun us s1 ⟨vs, H1, I1, r1, q1⟩ => ?_) hst hpl))
  obtain ⟨a, b, ws, bs, ev, h1, h2, hl, hz, hq⟩ := q1
  subst ev
  obtain ⟨ev, rfl⟩ : ∃ (_ : Unit), us = [.ref a, .ref b] := ⟨(), by
    cases r1 with
    | cons r rr => cases rr with
      | cons r' rr =>
        cases rr
        cases r
        cases r'
        rfl⟩
  obtain ⟨its, rv, l1, _⟩ := I1.list h1
  obtain ⟨its2, rv2, l2, _⟩ := I1.list h2
  refine call_zip_2 l1.isList l2.isList fun g2 jz jTI jTO j1 j2 hsz hk => wpAny_pyIter_zip jz ?_
  have D := PySem.W.ktu_apart s1.heap.objs.size a b l1.lt l2.lt
  have I2 : Inv X pins σ H1 { s1 with heap := g2 } := I1.kept (t' := s1.toks) hk
  generalize hs2 : ({ s1 with heap := g2 } : Shared) = s2 at I2 ⊢
  obtain rfl : g2 = s2.heap := by rw [← hs2]
  have T := turn_zip (P := X.prog) (w := X.w) (K := X.K) (elts := [.Name wn p2, .Name gn p3]) (kk := kk) (tpos := tpos) D
  generalize hfp : [s1.heap.objs.size + 4, s1.heap.objs.size + 2, s1.heap.objs.size + 3, s1.heap.objs.size, s1.heap.objs.size + 1] = fp at T
  have cas : ∀ {c : Addr}, c ∈ fp → c = s1.heap.objs.size + 4 ∨ c = s1.heap.objs.size + 2 ∨ c = s1.heap.objs.size + 3 ∨ c = s1.heap.objs.size ∨ c = s1.heap.objs.size + 1 := fun {c} hm => by
    rw [← hfp] at hm
    simpa using hm
  have ge1 : ∀ c ∈ fp, s1.heap.objs.size ≤ c := fun c hm => by rcases cas hm with z | z | z | z | z <;> rw [z] <;> first | exact Nat.le_add_right _ _ | exact Nat.le_refl _
  have f2 : ∀ c ∈ fp, FpOk X pins H1 c := fun c hm => I1.fpOk (ge1 c hm) (I1.hok.fresh (ge1 c hm))
  -- the state of the zip at turn i
  generalize htn : (fun (i : Nat) (h : Heap) => IsZip h (s1.heap.objs.size + 4) (s1.heap.objs.size + 2) (s1.heap.objs.size + 3) .none ∧ IsPair h (s1.heap.objs.size + 2) (.ref s1.heap.objs.size) (.ref (s1.heap.objs.size + 1)) ∧ (∃ x y, IsPair h (s1.heap.objs.size + 3) x y) ∧
    h.IsListIter s1.heap.objs.size a i ∧ h.IsListIter (s1.heap.objs.size + 1) b i) = tn at T
  have st2 : tn 0 s2.heap := by
    rw [← htn]
    exact ⟨jz, jTI, ⟨_, _, jTO⟩, j1, j2⟩
  refine wpAny_newObj_type (newEnv_comp ?_) (by show 0 ≤ sizeLine; decide)
  generalize hD : s2.heap.objs.size = L
  have hLn : H1 L = none := I2.hok.fresh (Nat.le_of_eq hD)
  generalize hs3 : ({ s2 with heap := s2.heap.push { cls := .type "list", data := .seq ([] : List Value).toArray } } : Shared) = s3
  have I3 : Inv X pins σ (upd H1 L (.lst [])) s3 := by
    rw [← hs3]
    refine I2.laid (t' := s2.toks) (fun b o e => Heap.get?_push_of_some _ e) (Nat.le_of_eq hD) ⟨Nat.zero_le _, [], 0, .nil, ?_⟩
    rw [← hD]
    exact Heap.get?_push_size _ rfl
  have h3 : s3.heap = s2.heap.push { cls := .type "list", data := .seq ([] : List Value).toArray } := by rw [← hs3]
  have lt2 : ∀ c ∈ fp, c < s2.heap.objs.size := fun c hm => by
    obtain ⟨o, e, _⟩ := T.obj _ _ st2 c hm
    exact Heap.lt_size e
  have f3 : ∀ c ∈ fp, FpOk X pins (upd H1 L (.lst [])) c ∧ c < s3.heap.objs.size := fun c hm => by
    have hlt := lt2 c hm
    refine ⟨⟨?_, (f2 c hm).2⟩, by rw [h3, Heap.size_push]; exact Nat.lt_succ_of_lt hlt⟩
    rw [upd_ne (by rw [← hD]; exact Nat.ne_of_lt hlt)]
    exact (f2 c hm).1
  have I4 := block_start I3 ok hN f3
  have st4 : tn 0 (pushCells (s3.heap.push { cls := .type "dict", data := .dict #[] }) scope.names) := T.keep _ _ _ st2 fun c _ o e => pushCells_keeps _ _ _ _ (Heap.get?_push_of_some _ (by rw [h3]; exact Heap.get?_push_of_some _ e))
  have hot := hotd_blk (scope := scope) (cenv := compEnvC scope (cellsFrom (s3.heap.objs.size + 1) scope.names (cloFrom X.env.cells scope.names [])) s3.heap.objs.size X.env) hc I3 fun c hm => (f3 c hm).1
  have pg := pg_tupD (k := kk) (pos := tpos) hot (hgs s3 (upd H1 L (.lst [])) s3.heap.objs.size (cellsFrom (s3.heap.objs.size + 1) scope.names (cloFrom X.env.cells scope.names [])) fp) (hn2 _) (hst2 _)
  have pt := ht s3 (upd H1 L (.lst [])) s3.heap.objs.size (cellsFrom (s3.heap.objs.size + 1) scope.names (cloFrom X.env.cells scope.names [])) fp
  have pe := he s3 (upd H1 L (.lst [])) s3.heap.objs.size (cellsFrom (s3.heap.objs.size + 1) scope.names (cloFrom X.env.cells scope.names [])) fp
  show codeAny _ _ (.compStart (.ListComp (.Name wn p1) [⟨.Tuple [.Name wn p2, .Name gn p3] kk tpos, .Call (.Name "zip" pz) [e1, e2] [] zpos, [.Name gn p4], 0⟩] scope pos) 0 (.ref (s1.heap.objs.size + 4)) (.ref L)
    (compEnvC scope (cellsFrom (s3.heap.objs.size + 1) scope.names (cloFrom X.env.cells scope.names [])) s3.heap.objs.size X.env)) (compPost (model X.prog X.w) X.A X.xe none (EP X pins σ Q) (.ref L) s3.heap.objs.size) { s3 with heap := pushCells (s3.heap.push { cls := .type "dict", data := .dict #[] }) scope.names }
  generalize hce : compEnvC scope (cellsFrom (s3.heap.objs.size + 1) scope.names (cloFrom X.env.cells scope.names [])) s3.heap.objs.size X.env = ce at I4 pg pt pe hot ⊢
  have cL : ce.locals = s3.heap.objs.size := by subst hce; rfl
  generalize hs4 : ({ s3 with heap := pushCells (s3.heap.push { cls := .type "dict", data := .dict #[] }) scope.names } : Shared) = s4 at I4 ⊢
  have st5 : tn 0 s4.heap := by rw [← hs4]; exact st4
  have nfp : ∀ c ∈ fp, (upd H1 L (.lst [])) c = none := fun c hm => (f3 c hm).1.1
  generalize hH3 : upd H1 L (.lst []) = H3 at I3 I4 pg pt pe nfp f3 hot
  have stat : ∀ {σ' : L2.St} {H' : Hp} {s' : Shared}, Inv (X.blk s3 H3 scope ce fp) [] σ' H' s' → (∀ c ∈ fp, H' c = none) → ∀ c ∈ fp, FpOk (X.blk s3 H3 scope ce fp) [] H' c := fun {σ' H' s'} J hn c hm =>
    ⟨hn c hm, (J.ok.exf c hm).1, J.ok.exfs c hm, .inl hm, fun x q e => (J.ok.exf c hm).2 x q e, fun p hp => absurd (show p ∈ ([] : List (Addr × Obj)) ++ [] from hp) (by simp)⟩
  have out : ∀ {c : Addr}, c ∉ fp → c ≠ s1.heap.objs.size + 4 ∧ c ≠ s1.heap.objs.size + 2 ∧ c ≠ s1.heap.objs.size + 3 ∧ c ≠ s1.heap.objs.size ∧ c ≠ s1.heap.objs.size + 1 := fun {c} hm => by
    rw [← hfp] at hm
    simpa using hm
  have zat : s1.heap.objs.size + 4 ∈ fp := by rw [← hfp]; simp
  have lay3 : (∀ c o, H1 c = some o → H3 c = some o) ∧ H3 L = some (.lst ((pick (ws.take 0) (bs.take 0)).map V.str)) := by
    rw [← hH3]
    refine ⟨fun c o q => ?_, by rw [upd_same]; rfl⟩
    rw [upd_ne (fun z => by rw [z, hLn] at q; cases q)]
    exact q
  have loop : codeAny (model X.prog X.w) X.A (.compLoop (.ListComp (.Name wn p1) [⟨.Tuple [.Name wn p2, .Name gn p3] kk tpos, .Call (.Name "zip" pz) [e1, e2] [] zpos, [.Name gn p4], 0⟩] scope pos) 0 (.ref (s1.heap.objs.size + 4)) (.ref L) ce)
      (compPost (model X.prog X.w) X.A X.xe none (EP X pins σ Q) (.ref L) s3.heap.objs.size) s4 := by
    refine compLoop_any (fun n s' => ∃ i H', n = ws.length - i ∧ i ≤ ws.length ∧ Inv (X.blk s3 H3 scope ce fp) [] (wipe σ (own.map (·.2))) H' s' ∧ tn i s'.heap ∧ (∀ c ∈ fp, H' c = none) ∧ (∀ c o, H1 c = some o → H' c = some o) ∧
      H' L = some (.lst ((pick (ws.take i) (bs.take i)).map V.str))) ?_ ws.length ⟨0, H3, by simp, Nat.zero_le _, I4, st5, nfp, lay3⟩
    rintro n s5 ⟨i, H5, rfl, hi, I5, st, n5, kp5, l5⟩
    have ge5 : DL.GE H1 H5 := kp5
    have sa := ge5.rd.sqL h1
    have sb := ge5.rd.sqL h2
    obtain ⟨jt, rj, pj, _⟩ := I5.list sa
    obtain ⟨jt2, rj2, pj2, _⟩ := I5.list sb
    have st' := st
    rw [← htn] at st'
    obtain ⟨zz, zTI, ⟨x0, y0, zTO⟩, za, zb⟩ := st'
    by_cases hlt : i < ws.length
    · have hw : (ws.map V.str)[i]? = some (V.str ws[i]) := by simp [hlt]
      have hlb : i < bs.length := by omega
      have hb : (bs.map V.bl)[i]? = some (V.bl bs[i]) := by simp [hlb]
      obtain ⟨u, hu, ru⟩ := rj.get hw
      obtain ⟨u2, hu2, ru2⟩ := rj2.get hb
      refine wpAny_pyNext_zip_item D zz zTI zTO za zb pj.isList pj2.isList (x := u) (y := u2) (by simpa using hu) (by simpa using hu2) fun h6 z6 TO6 m1 m2 hT6 _ kk6 => ?_
      refine wpAny_letOwnedTupleGo_zip (s := { s5 with heap := h6 }) z6 fun h7 z7 sb7 => ?_
      have zl : s1.heap.objs.size + 4 < s5.heap.objs.size := Heap.lt_size zz
      have hT7 : h7.get? s5.heap.objs.size = some { cls := .type "tuple", data := .seq #[u, u2] } := (sb7.2 _ (Nat.ne_of_gt zl)).trans hT6
      have lt5 : ∀ c ∈ fp, c < s5.heap.objs.size := fun c hm => by
        obtain ⟨o, e, _⟩ := T.obj _ _ st c hm
        exact Heap.lt_size e
      have nT : H5 s5.heap.objs.size = none := I5.hok.fresh (Nat.le_refl _)
      have I6 : Inv (X.blk s3 H3 scope ce fp) [] (wipe σ (own.map (·.2))) (upd H5 s5.heap.objs.size (.tup [V.str ws[i], V.bl bs[i]])) { s5 with heap := h7 } :=
        I5.turnedNew (t' := s5.toks) (ch := fp) (fun c o hm q => (sb7.2 c (out hm).1).trans (kk6 c o (out hm).1 (out hm).2.2.1 (out hm).2.2.2.1 (out hm).2.2.2.2 q)) (stat I5 n5) (Nat.le_refl _)
          ⟨by show 2 ≤ sizeLine; decide, [u, u2], .cons ru (.cons ru2 .nil), ⟨_, hT7, rfl, _, rfl⟩⟩
      have st6 : tn (i + 1) h7 := by
        rw [← htn]
        refine ⟨z7, ?_, ⟨u, u2, ?_⟩, ?_, ?_⟩
        · exact (sb7.2 _ D.TIz).trans (kk6 _ _ D.TIz D.TITO D.TIi1 D.TIi2 zTI)
        · exact (sb7.2 _ D.TOz).trans TO6
        · exact m1.at fun o q => (sb7.2 _ D.i1z).trans q
        · exact m2.at fun o q => (sb7.2 _ D.i2z).trans q
      have n6 : ∀ c ∈ fp, (upd H5 s5.heap.objs.size (.tup [V.str ws[i], V.bl bs[i]])) c = none := fun c hm => by
        rw [upd_ne (Nat.ne_of_lt (lt5 c hm))]
        exact n5 c hm
      have kp6 : ∀ c o, H1 c = some o → (upd H5 s5.heap.objs.size (.tup [V.str ws[i], V.bl bs[i]])) c = some o := fun c o q => by
        have q5 := kp5 c o q
        rw [upd_ne (fun z => by rw [z, nT] at q5; cases q5)]
        exact q5
      have l6 : (upd H5 s5.heap.objs.size (.tup [V.str ws[i], V.bl bs[i]])) L = some (.lst ((pick (ws.take i) (bs.take i)).map V.str)) := by
        rw [upd_ne (fun z => by rw [z, nT] at l5; cases l5)]
        exact l5
      have tup6 : (upd H5 s5.heap.objs.size (.tup [V.str ws[i], V.bl bs[i]])) s5.heap.objs.size = some (.tup [V.str ws[i], V.bl bs[i]]) := upd_same
      generalize upd H5 s5.heap.objs.size (.tup [V.str ws[i], V.bl bs[i]]) = H6 at I6 n6 kp6 l6 tup6
      have I7 := I6.pinned (stat I6 n6) (T.obj _ _ st6)
      have lσ : σ.length = X.N.length := I.len
      have wl : (wipe σ (own.map (·.2))).length = X.N.length := by rw [wipe_length, lσ]
      refine thnF (pg.run _ _ _ H6 (.ref s5.heap.objs.size) _ (fun σ' H' => σ' = ((wipe σ (own.map (·.2))).set iw (some (V.str ws[i]))).set ig (some (V.bl bs[i])) ∧ H' = H6) I7 rfl ⟨_, _, rfl, .inl (.inl tup6), rfl, _, _, rfl, _, _, rfl, rfl, rfl, rfl⟩) fun _ s8 ⟨σ8, H8, I8, q8⟩ => ?_
      obtain ⟨e8, e8'⟩ := q8
      subst e8'
      have gw : σ8[iw]? = some (some (V.str ws[i])) := by
        rw [e8, List.getElem?_set_ne (Ne.symm hne), List.getElem?_set_self (by rw [wl]; exact hiw)]
      have gg : σ8[ig]? = some (some (V.bl bs[i])) := by
        rw [e8, List.getElem?_set_self (by rw [List.length_set, wl]; exact hig)]
      refine thnF (pt.run _ s8 σ8 H8 (fun c H' => c = bs[i] ∧ H' = H8) I8 ⟨_, gg, _, rfl, rfl, rfl⟩) fun c s9 ⟨H9, I9, q9⟩ => ?_
      obtain ⟨e9, e9'⟩ := q9
      subst e9'
      have snoc := pick_snoc (ws := ws) (bs := bs) (i := i) (w := ws[i]) (b := bs[i]) (by simp [hlt]) (by simp [hlb])
      -- the end of a turn
      have fin : ∀ {s' : Shared} {H' : Hp}, Inv (X.blk s3 H3 scope ce fp) ([] ++ pinsAt fp h7) σ8 H' s' → (∀ c o, H1 c = some o → H' c = some o) → H' L = some (.lst ((pick (ws.take (i + 1)) (bs.take (i + 1))).map V.str)) →
          ∃ m, m < ws.length - i ∧ ∃ i H', m = ws.length - i ∧ i ≤ ws.length ∧ Inv (X.blk s3 H3 scope ce fp) [] (wipe σ (own.map (·.2))) H' s' ∧ tn i s'.heap ∧ (∀ c ∈ fp, H' c = none) ∧ (∀ c o, H1 c = some o → H' c = some o) ∧ H' L = some (.lst ((pick (ws.take i) (bs.take i)).map V.str)) := fun {s' H'} J k l => by
        have pin' : ∀ c ∈ fp, ∀ o, h7.get? c = some o → s'.heap.get? c = some o ∧ H' c = none := fun c hm o e =>
          have z := J.pin (c, o) (List.mem_append_right _ (List.mem_append_right _ (mem_pinsAt hm e)))
          ⟨z.1, z.2.1⟩
        refine ⟨ws.length - (i + 1), by omega, i + 1, H', rfl, hlt, (J.unpinned (pins := [])).weak (by rw [wl, e8, List.length_set, List.length_set, wl]) (fun j v e => ?_), T.keep _ _ _ st6 fun c hm o e => (pin' c hm o e).1, fun c hm => ?_, k, l⟩
        · have ⟨_, nj⟩ := wipe_some e
          rw [hown] at nj
          simp only [List.mem_cons, List.not_mem_nil, or_false, not_or] at nj
          rw [e8, List.getElem?_set_ne (Ne.symm nj.2), List.getElem?_set_ne (Ne.symm nj.1)]
          exact e
        · obtain ⟨o, e, _⟩ := T.obj _ _ st6 c hm
          exact (pin' c hm o e).2
      cases hbi : bs[i] with
      | false =>
        rw [hbi] at e9 snoc
        subst e9
        simp only [Bool.false_eq_true, if_false, List.append_nil] at snoc ⊢
        exact fin I9 kp6 (by rw [snoc]; exact l6)
      | true =>
        rw [hbi] at e9 snoc
        subst e9
        simp only [if_true] at snoc ⊢
        refine thnF (pe.run _ s9 σ8 H9 (fun v H' => v = V.str ws[i] ∧ H' = H9) I9 ⟨_, gw, rfl, rfl⟩) fun z s10 ⟨yv, H10, I10, r10, e10, e10'⟩ => ?_
        subst e10 e10'
        have pl : ((pick (ws.take i) (bs.take i)).map V.str).length < sizeLine := by
          have := pick_length (ws.take i) (bs.take i)
          rw [List.length_take] at this
          rw [List.length_map]
          omega
        refine app_ok (X := X.blk s3 H3 scope ce fp) I10 l6 pl r10 fun s11 I11 => fin I11 (fun c o q => ?_) ?_
        · rw [upd_ne (fun z => by rw [z, hLn] at q; cases q)]
          exact kp6 c o q
        · rw [upd_same, snoc, List.map_append]
          rfl
    · obtain rfl : i = ws.length := by omega
      obtain ⟨x1, hot5⟩ := hot [] _ _ _ I5
      refine pyNext_zip_hot hot5 D zz zTI za pj.isList (by have := rj.length; simp at this; simp; omega) fun h6 zk => ?_
      have I6 : Inv (X.blk s3 H3 scope ce fp) [] (wipe σ (own.map (·.2))) H5 { s5 with heap := h6 } := I5.turnedL (t' := s5.toks) (ch := fp) (fun c o hm q => zk c o (out hm).1 (out hm).2.2.1 (out hm).2.2.2.1 (out hm).2.2.2.2 q) (stat I5 n5)
      have I7 : Inv X pins σ H5 { s5 with heap := h6 } := I3.call' (ch := fp) I6.os I6.base I6.hok I6.bare fun c hm => ⟨(f3 c hm).1.2.2.2.1, (f3 c hm).1.2.1, (f3 c hm).1.2.2.2.2.1, (f3 c hm).1.2.2.2.2.2⟩
      have nC : H5 s3.heap.objs.size = none := by
        have z : H5 ce.locals = none := I6.free
        rwa [cL] at z
      obtain ⟨m, hn, _⟩ := I6.loc
      have hn : h6.Ns ce.locals m := hn
      rw [cL] at hn
      refine ⟨m, hn, fun h8 sb8 => ?_⟩
      obtain ⟨f0, f1, f2', f3', f4, f5⟩ := I3.fpOk (H' := H5) (Nat.le_refl _) nC
      refine ⟨.ref L, H5, I7.turned (t' := s5.toks) (fun c o hb e => (sb8.2 c hb).trans e) f0 f1 f3' f4 f5, rfl, hq L H5 kp5 hLn ?_⟩
      rw [l5, List.take_of_length_le (Nat.le_refl _), List.take_of_length_le (by omega)]
  exact codeAny_compStart_list loop (T.self X.A 0 _ _ _ st5 loop)
end DH
end

section
set_option Elab.async false
set_option linter.all false
set_option maxRecDepth 100000
set_option maxHeartbeats 400000
/-! DH4: the parts of _law_names, read as data. -/
namespace DH
open PySem PySem.Spec PyProof.Rows HotX L2 L2H DL
variable [Tbl]
section
variable {K : PySem.W.Frag} {e : Ent} {G H H2 : Hp} {σ : L2.St} {ρ : Rho}
/-- the heap grows -/
theorem _root_.DL.Rp.grow (r : Rp K e G H σ ρ) (k : ∀ c o, H c = some o → H2 c = some o) : Rp K e G H2 σ ρ where
  le := fun b o h => k _ _ (r.le b o h)
  nt := r.nt
  bg := fun b o h m t => ⟨fun l => k _ _ ((r.bg b o h m t).1 l), fun l => let ⟨ob, z⟩ := (r.bg b o h m t).2 l; ⟨ob, k _ _ z⟩⟩
  mt := fun b h z => by
    cases q : H b with
    | none => exact r.mt b h q
    | some o => rw [k _ _ q] at z; cases z
  tb := fun b o h t z => by
    cases q : H b with
    | none => exact r.tb b o h t q
    | some o => rw [k _ _ q] at z; cases z
  new := r.new
  ge := r.ge
  pr := fun p hp => ⟨k _ _ (r.pr p hp).1, (r.pr p hp).2⟩
  tabs := r.tabs.ext k
  len := r.len
  slot := fun i v dv h1 h2 => by
    have s := r.slot i v dv h1 h2
    cases dv with
    | sh d => exact s
    | ow c => obtain ⟨a, z1, z2, z3, z4, z5⟩ := s; exact ⟨a, z1, z2, z3, z4, z5.mono (GE.refl G).rd fun u hu => k _ _ hu⟩
    | mu c => obtain ⟨a, z1, z2, z3, z4, z5⟩ := s; exact ⟨a, z1, z2, z3, z4, z5.mono (GE.refl G).rd fun u hu => k _ _ hu⟩
    | op a => exact s
    | bw i => exact s
  has := r.has
  apart := r.apart
end
def pickD : List PyData → Option (List PyData)
  | [.list a, .list b] => match strL a, bools b with
    | some ws, some bs => if ws.length = bs.length ∧ ws.length < 1000 then some ((pick ws bs).map .str) else none
    | _, _ => none
  | _ => none
def dPick (δ : DA) : DE := fun ρ => (δ ρ).bind fun xs ρ1 => (coerceAll xs ρ1).bind fun ds ρ2 => match pickD ds with
  | some zs => .ok (.ow (.lst zs)) ρ2
  | none => .bad
theorem pickD_inv {ds zs : List PyData} (h : pickD ds = some zs) : ∃ a b ws bs, ds = [.list a, .list b] ∧ strL a = some ws ∧ bools b = some bs ∧ ws.length = bs.length ∧ ws.length < 1000 ∧ zs = (pick ws bs).map .str := by
  unfold pickD at h
  split at h
  · split at h
    · split at h
      · rename_i a b ws bs h1 h2 h3
        cases h
        exact ⟨_, _, _, _, rfl, h1, h2, h3.1, h3.2, rfl⟩
      · cases h
    · cases h
  · cases h
theorem rds_strs {K : PySem.W.Frag} {G : Hp} : ∀ (ws : List Str), RDs K G (ws.map V.str) (ws.map PyData.str)
  | [] => .nil
  | w :: ws => .cons (.str w) (rds_strs ws)
theorem de_pick {X : Cx} {cv : Str → Value} {W : WX} {e1 e2 : Expr} {δ : DA} {wn gn : Str} {iw ig kk : Nat} (own : List (Str × Nat)) {scope : Scope} {p1 p2 p3 p4 pz zpos tpos pos : Pos} (hc : HotC X) (hN : X.N.Nodup) (hm : X.mg "zip" = none) (ha : DAx X cv W [e1, e2] δ)
    (ok : BlkOk X.N X.env.scope scope own) (hown : own.map (·.2) = [iw, ig]) (hne : iw ≠ ig) (hiw : iw < X.N.length) (hig : ig < X.N.length)
    (hgs : ∀ (s : Shared) (H : Hp) (C : Addr) (cl : List (Str × Addr)) (fp : List Addr), PGs (X.blk s H scope (compEnvC scope cl C X.env) fp) [.Name wn p2, .Name gn p3] (gCons (gName iw) (gCons (gName ig) gNil)))
    (ht : ∀ (s : Shared) (H : Hp) (C : Addr) (cl : List (Str × Addr)) (fp : List Addr), PTs (X.blk s H scope (compEnvC scope cl C X.env) fp) [.Name gn p4] (L2.tB (tVar ig)))
    (he : ∀ (s : Shared) (H : Hp) (C : Addr) (cl : List (Str × Addr)) (fp : List Addr), PE (X.blk s H scope (compEnvC scope cl C X.env) fp) (.Name wn p1) (tVar iw))
    (hg : Gl X "zip" := by rfl) (hs : ∀ x, foldedSetIterable (.Call (.Name "zip" pz) [e1, e2] [] zpos) X.env x = pure x := by intro _; rfl)
    (hst : starEach [e1, e2] X.env = (false, eval e1 X.env) :: starEach [e2] X.env := by rfl) (hpl : (backTo zpos (starEach [e2] X.env)).any (·.1) = false := by rfl)
    (hn2 : ∀ env, (assignEach [.Name wn p2, .Name gn p3] env).length = 2 := by intro _; rfl) (hst2 : ∀ env, (assignEach [.Name wn p2, .Name gn p3] env).findIdx? (·.1) = none := by intro _; rfl) :
    DEx X cv W (.ListComp (.Name wn p1) [⟨.Tuple [.Name wn p2, .Name gn p3] kk tpos, .Call (.Name "zip" pz) [e1, e2] [] zpos, [.Name gn p4], 0⟩] scope pos) (dPick δ) :=
  PE_imp (pe_pick hc hN hg hm ha ok hown hne hiw hig hgs ht he hs hst hpl hn2 hst2) fun σ H Q ⟨e, G, ρ, rp, p⟩ => by
    refine ⟨e, G, ρ, rp, Post.bind p fun xs ρ1 G1 H1 rp1 ge1 p1 vs hvs => ?_⟩
    refine post_coerceAll rp1 hvs p1 fun ds ρ2 G3 rp3 ge3 rd p3 => ?_
    cases q : pickD ds with
    | none => rw [q] at p3; exact p3.elim
    | some zs =>
      rw [q] at p3
      obtain ⟨a, b, ws, bs, rfl, hw, hb, hl, hz, rfl⟩ := pickD_inv q
      match vs, rd with
      | _, .cons (.lst (a := a1) ra rda) (.cons (.lst (a := b1) rb rdb) .nil) =>
        have ea := strL_rds rda hw
        have eb := bools_rds rdb hb
        subst ea eb
        refine ⟨a1, b1, ws, bs, rfl, rp3.le.rd.sqL ra, rp3.le.rd.sqL rb, hl, by rw [sizeLine_eq]; omega, fun D H2 k hD hH => ?_⟩
        have rp4 := rp3.grow k
        refine p3 H2 G3 rp4 (GE.refl _) (.ref D) ⟨D, rfl, rp3.freshG hD, rp3.fresh0 hD, rp3.freshP hD, ⟨_, hH, rds_strs _⟩, fun j dv hj hs => ?_⟩
        cases z : dv.oc? with
        | none => rfl
        | some c =>
          obtain ⟨u, hu, _⟩ := (rp3.slot j _ dv hs hj).tracked rfl (by rw [z]; simp)
          rw [hD] at hu; cases hu
/-- isinstance(e, x), e the handled exception -/
theorem call_isA {X : Cx} {a D : Addr} {oe : Obj} (C : ExcC X.K D) (hp : (a, oe) ∈ X.pn) (hz : Zc (.ref D) none oe) (hf : ∃ vs, oe.data = .fields vs) : CallR X (.builtin "isinstance") (rIsE X.K D a) := by
  intro pins s σ H xs us Q I r ⟨c, cv, b, ex, hcv, e, q⟩
  subst ex
  obtain ⟨u, ru, eu⟩ : ∃ u, RelV c u ∧ us = [.ref a, u] := by
    cases r with
    | cons rx rr =>
      cases rr with
      | cons rt rr =>
        cases rr
        cases rx
        exact ⟨_, rt, rfl⟩
  subst eu
  rw [hcv _ ru]
  obtain ⟨hget, _⟩ := I.pin (a, oe) (List.mem_append.mpr (.inl hp))
  have J : PySem.W.InstAt s.heap a oe D none := by
    obtain ⟨oc, od, oda, osl⟩ := oe
    obtain ⟨vs, hv⟩ := hf
    obtain ⟨h1, h2⟩ := hz
    dsimp only at h1 h2 hv
    subst h1 h2 hv
    exact ⟨hget, rfl, rfl, trivial⟩
  exact PySem.W.kia_one (PySem.W.handS_kitx_exc C.hg C.hk C.hs C.hd C.ha C.hn C.ht C.hm) I.kIn J e (fun z => nomatch z) fun tk => ⟨.bl b, H, I.kept (t' := tk) fun _ _ z => z, rfl, q⟩
def dIsE (i : Nat) (a : Addr) (b : Bool) : DE := fun ρ => match ρ[i]? with
  | some (some (DV.op a')) => if a' = a then .ok (.sh (.bool b)) ρ else .bad
  | _ => .bad
theorem de_isE {X : Cx} {cv : Str → Value} {W : WX} {i : Nat} {a D : Addr} {oe : Obj} {x en : Str} {cval : Value} {cV : V} {b : Bool} {p p1 p2 pos : Pos} (C : ExcC X.K D) (hp : (a, oe) ∈ X.pn) (hz : Zc (.ref D) none oe) (hf : ∃ vs, oe.data = .fields vs)
    (hc : PE X (.Name x p2) (tC cV)) (hcv : ∀ u, RelV cV u → u = cval) (hk : PySem.W.kitOne X.K (.ref D) cval = some b) (hv : PE X (.Name en p1) (tVar i)) (hm : X.mg "isinstance" = none) (hg : Gl X "isinstance" := by rfl)
    (he : starEach (.Name en p1 :: [.Name x p2]) X.env = (false, eval (.Name en p1) X.env) :: starEach [.Name x p2] X.env := by rfl) (he2 : starEach (.Name x p2 :: []) X.env = (false, eval (.Name x p2) X.env) :: starEach [] X.env := by rfl) (hpl : (backTo pos (starEach [.Name x p2] X.env)).any (·.1) = false := by rfl) :
    DEx X cv W (.Call (.Name "isinstance" p) [.Name en p1, .Name x p2] [] pos) (dIsE i a b) := by
  refine PE_imp (pe_callB (call_isA C hp hz hf) hg hm boot_isinstance (pa_cons hv (pa_cons hc pa_nil he2) he) (by decide) (by decide) he hpl) fun σ H Q ⟨e, G, ρ, rp, p⟩ => ?_
  unfold dIsE at p
  split at p
  · rename_i a' q
    by_cases ha : a' = a
    · rw [if_pos ha] at p
      subst ha
      obtain ⟨v, hv⟩ := rp.has i _ q
      have s := rp.slot i v _ hv q
      have s : v = .ref a' := s
      subst s
      exact ⟨_, hv, cV, cval, b, rfl, hcv, hk, p H G rp (GE.refl G) _ (.bl b)⟩
    · rw [if_neg ha] at p; exact p.elim
  · exact p.elim
end DH
end

section
set_option Elab.async false
set_option linter.all false
set_option maxRecDepth 100000
set_option maxHeartbeats 400000
/-! DH5: a lambda made, handed to a def, called there; exceptions whose context is None. -/
namespace DH
open PySem PySem.Spec PyProof.Rows HotX L2 L2H DL
open LamX (TabB LamS lamEnv lamCx CodeO ExtN)
open NdefX (NTab TabN TabsN)
section
variable {X : Cx} {pins : List (Addr × Obj)} {σ : L2.St} {H HZ : Hp} {s s1 : Shared}
/-- the making of a lambda: nothing tracked is lost -/
theorem lam_made {T : List NTab} {nm : Nat → Nat → Str} {c P : Addr} {params : Arguments} {body : Expr} {scope : Scope} {pos : Pos} {E : Value → Shared → Prop} {Q : Value → Shared → Prop} (I : Inv X pins σ H s) (TB : TabB X.base X.mg c P) (hcode : X.env.code = .ref c)
    (hm : (P, nm) ∈ T) (hn : nm pos.line pos.col = X.env.qual ++ "<lambda>") (hu : ∀ p ∈ T, p.1 = P → p.2 = nm) (hT : TabsN T H) (hdef : defaultsOf params X.env = ([], [])) (hfree : ∀ y ∈ scope.names, y.2 = .free → ∃ c, X.env.cells.lookup y.1 = some c)
    (h : ∀ (f c' : Addr) (pm ctv : Value) (H1 : Hp) (s' : Shared), Inv X pins σ H1 s' → ExtN H H1 → (∀ b, H1 b = none → H b = none) → TabsN T H1 → s'.heap.get? f = some (PySem.W.kla_obj "<lambda>" (X.env.qual ++ "<lambda>") params body scope (cloFrom X.env.cells scope.names []) pm c' ctv) →
      H1 f = none → f ∉ frs X.stack → H1 c' = some (CodeO c' (X.env.qual ++ "<lambda>")) → Q (.ref f) s') : wpAny (model X.prog X.w) X.A (eval (.Lambda params body scope pos) X.env) Q E s := by
  obtain ⟨ps, hP, ht, ha⟩ := (show TabN H P nm from hT _ hm)
  have tP : s.heap.get? P = some { cls := .none, data := .fields ps } := I.hok P _ hP
  have nofr : ∀ f, s.heap.objs.size ≤ f → f ∉ frs X.stack := fun f hf z => (List.mem_cons.mp (I.stkSub _ z)).elim (fun e => Nat.lt_irrefl _ (Nat.lt_of_lt_of_le (by rw [e]; exact I.lt) hf)) fun e => I.nofs hf e
  refine PySem.W.kla_eval hdef ?_
  cases hc : codeAmong pos ps.toList with
  | some cv =>
    obtain ⟨c', rfl, hco⟩ := ha pos cv hc
    rw [hn] at hco
    refine PySem.W.kla_makeFunctionHit (mg := X.mg) (c := c) (P := P) (ps := ps) (closure_ok hfree) I.ok.glob (I.mod.glob.keeps I.bk) hcode (TB.code.keeps I.bk) tP ht hc (TB.bm.keeps I.bk) fun ctv h1 tk hx hsz => ?_
    exact h _ c' _ ctv H _ (I.kept fun b o e => Heap.get?_push_of_some _ (hx b o e)) (ExtN.refl H) (fun _ z => z) hT (Heap.get?_push_size _ rfl) (I.hok.fresh hsz) (nofr _ hsz) hco
  | none =>
    refine PySem.W.kla_makeFunction (mg := X.mg) (c := c) (P := P) (ps := ps) (closure_ok hfree) I.ok.glob (I.mod.glob.keeps I.bk) hcode (TB.code.keeps I.bk) tP ht hc TB.gP (TB.bm.keeps I.bk) fun c' ctv h1 tk hx hge hlt hrec htb => ?_
    obtain ⟨c2, oc, vs, t, e2, hoc, hd, hv⟩ := hrec
    cases e2
    have sz : s.heap.objs.size ≤ h1.objs.size := Nat.le_trans hge (Nat.le_of_lt hlt)
    have nC : H c' = none := I.hok.fresh hge
    have nP : P ≠ c' := ne_of_none hP nC
    have J := LamX.inv_table (t' := tk) (more := #[rawInt pos.line, rawInt pos.col, .ref c']) (h' := h1.push (PySem.W.kla_obj "<lambda>" (X.env.qual ++ "<lambda>") params body scope (cloFrom X.env.cells scope.names []) ((X.mg "__name__").getD .none) c' ctv)) I hP
      (fun b o hb e => Heap.get?_push_of_some _ (hx b o hb e)) (Heap.get?_push_of_some _ htb) hge ⟨oc, vs, t, Heap.get?_push_of_some _ hoc, hd, hv⟩
    have hE : ExtN H (upd (upd H P (.tbl (ps ++ #[rawInt pos.line, rawInt pos.col, .ref c']))) c' (CodeO c' (X.env.qual ++ "<lambda>"))) := fun b o e n => by
      have b1 : b ≠ c' := ne_of_none e nC
      have b2 : b ≠ P := fun z => n ps (by rw [z, hP] at e; exact (Option.some.inj e).symm)
      rw [upd_ne b1, upd_ne b2]
      exact e
    refine h h1.objs.size c' _ ctv _ _ J hE (fun b e => NdefX.upd_none (NdefX.upd_none e)) (fun p hp => ?_) (Heap.get?_push_size _ rfl) ?_ (nofr _ sz) upd_same
    · by_cases hb : p.1 = P
      · rw [hu p hp hb, hb]
        have eL : (ps ++ #[rawInt pos.line, rawInt pos.col, .ref c']).toList = ps.toList ++ [rawInt pos.line, rawInt pos.col, .ref c'] := by simp
        refine ⟨_, by rw [upd_ne nP, upd_same], by rw [eL]; exact PySem.TriplesOk_snoc _ _ _ _ ht, fun p' cv hcv => ?_⟩
        rw [eL] at hcv
        rcases NdefX.among_app2 _ ht hcv with z | ⟨z, z1, z2⟩
        · obtain ⟨c0, q1, q2⟩ := ha p' cv z
          exact ⟨c0, q1, hE _ _ q2 LamX.codeO_ne⟩
        · exact ⟨c', z, by rw [← z1, ← z2, hn]; exact upd_same⟩
      · obtain ⟨ps', a1, a2, a3⟩ := hT p hp
        refine ⟨ps', by rw [upd_ne (ne_of_none a1 nC), upd_ne hb]; exact a1, a2, fun p' cv hcv => ?_⟩
        obtain ⟨c0, q1, q2⟩ := a3 p' cv hcv
        exact ⟨c0, q1, hE _ _ q2 LamX.codeO_ne⟩
    · rw [upd_ne (Nat.ne_of_gt hlt), upd_ne (Nat.ne_of_gt (Nat.lt_of_lt_of_le (Heap.lt_size tP) sz))]
      exact I.hok.fresh sz
/-- the context of the lambda's body: its exceptions have no context -/
abbrev lamCxN (X : Cx) (A : Around) (outer : List Env) (s : Shared) (H : Hp) (E : XK) (scope : Scope) (f c' : Addr) : Cx := (lamCx X A outer s H E scope f c').tr [] fun e s' =>
  wpAny (model X.prog X.w) (A.deeper (lamEnv X scope s.heap.objs.size f c')) (leaving (lamEnv X scope s.heap.objs.size f c') e) (fun _ s'' => L2N.CX X.prog X.w outer H s E e s'') (fun e' s'' => L2N.CX X.prog X.w outer H s E e' s'') s'
theorem takes_lam {A : Around} {outer : List Env} {E : XK} {scope : Scope} {f c' : Addr} : L2N.Takes (lamCxN X A outer s H E scope f c') (fun cls d _ H' => E cls d H') := L2N.takes_of rfl rfl rfl rfl
/-- x() in the def that holds the lambda -/
theorem pe_actN {CXg : CXT} {Eg : XK} {Ng : List Str} {qg : Str} {sg : Scope} {g f c' : Addr} {cdg pm ctv : Value} {params : Arguments} {body : Expr} {scope : Scope} {k i : Nat} {a : Str} {pn : List (Addr × Obj)} {xe : Value → Shared → Prop} {W : WX} {E : XK} {tb : TE} {p1 p2 : Pos}
    (I : Inv X pins σ H s) (L : LamS X.env.scope scope) (hf : s.heap.get? f = some (PySem.W.kla_obj "<lambda>" (X.env.qual ++ "<lambda>") params body scope (cloFrom X.env.cells scope.names []) pm c' ctv)) (hfn : H f = none) (hfr : f ∉ frs X.stack)
    (hbind : bindArgs (PySem.W.kla_fn "<lambda>" (X.env.qual ++ "<lambda>") params body scope (cloFrom X.env.cells scope.names []) pm (.ref c') ctv) ⟨[], []⟩ = pure [])
    (tk : L2N.Takes ((cxOf CXg X.prog X.w X.K X.mg X.base Ng qg sg g cdg X.A X.stack s H Eg).tr pn xe) W) (hW : ∀ cls d σ' H', E cls d H' → W cls d σ' H') (hr : Room (k + 1) (X.A.deeper (envOfC qg sg s.heap.objs.size g cdg)))
    (hbody : ∀ (A : Around) (outer : List Env) (s : Shared) (H : Hp), Room k (A.deeper (lamEnv X scope s.heap.objs.size f c')) → PE (lamCxN X A outer s H E scope f c') body tb) (hN : Ng[i]? = some a) (hv : Vis sg a) (hd : (a == ("__debug__" : Str)) = false) (hcd : (a == ("__classdict__" : Str)) = false) :
    PE ((cxOf CXg X.prog X.w X.K X.mg X.base Ng qg sg g cdg X.A X.stack s H Eg).tr pn xe) (.Call (.Name a p1) [] [] p2) (fun σZ HZ Q => σZ[i]? = some (some (.ref f)) ∧ HZ c' = some (CodeO c' (X.env.qual ++ "<lambda>")) ∧ tb σ HZ Q) := by
  refine ⟨fun pinsZ sZ σZ HZ Q IZ ⟨hs, hc, ht⟩ => wpAny_Call_Name_kw (thn ((pe_var (pos := p1) (i := i) hN hv hd hcd).run pinsZ sZ σZ HZ (fun v H1 => v = .ref f ∧ H1 = HZ) IZ ⟨.ref f, hs, rfl, rfl⟩) fun u s1 ⟨v, H1, I1, r1, ev, eH⟩ => ?_)⟩
  subst ev
  rw [eH] at I1
  obtain rfl : u = Value.ref f := r1
  have of1 := I1.base.keep f _ hf hfn hfr (fun z => nomatch (show f ∈ ([] : List Addr) from z))
  refine PySem.W.callWith_F0 ⟨_, _, _, _, of1⟩ ?_
  obtain ⟨⟨oc, vs, t, hoc, hdc, hvc⟩, _, _⟩ := I1.hok c' _ hc
  have run : codeAny (model X.prog X.w) (X.A.deeper (envOfC qg sg s.heap.objs.size g cdg)) (.call (.ref f) ⟨[], []⟩) (CR (L2N.CX X.prog X.w) (envOfC qg sg s.heap.objs.size g cdg :: X.stack) X.prog X.w HZ s1 Q E) s1 := by
    refine PySem.W.kla_callFunE hr.depth of1 rfl L.co L.gen rfl ⟨c', oc, vs, t, rfl, hoc, hdc, hvc⟩ ?_
    rw [hbind]
    refine wpAny_pure (wpAny_newFunctionEnv (fun y hy => (L.own y hy).2) (fun y hy => absurd hy (by simp)) (fun h1 hns hsb => ⟨I1.nolimit.fresh _ hsb, ?_⟩) L.kind)
    show codeAny _ _ (.expr body (lamEnv X scope s1.heap.objs.size f c')) _ _
    have J0 := LamX.lam_start2 (E := E) (f := f) (c' := c') (tk := s1.toks + ([] : List (Str × Value)).length) I L I1.env0 hr.hd I1.base hns fun b o e => hsb.extBut b o (Nat.ne_of_lt (Heap.lt_size e)) (Heap.get?_push_of_some _ e)
    have J : Inv (lamCxN X (X.A.deeper (envOfC qg sg s.heap.objs.size g cdg)) (envOfC qg sg s.heap.objs.size g cdg :: X.stack) s1 HZ E scope f c') [] σ HZ { s1 with heap := h1, toks := s1.toks + ([] : List (Str × Value)).length } := J0.toTry _
    refine PySem.W.kla_codeExpr (wpAny_mono ((hbody _ _ s1 HZ (hr.deeper _)).run [] _ _ HZ Q J ht) (fun v s' ⟨w', H', J', rv, q⟩ => ?_) fun e s' hq => hq)
    exact ⟨w', H', J'.os, J'.bare, J'.base, J'.hok, rv, q⟩
  refine wpAny_call (codeAny_mono run fun r s' hq => ?_)
  match r, hq with
  | .error e, hq => exact L2N.passes_call tk hW pinsZ σZ HZ s1 e s' I1 hq
  | .ok (.ret u), hq => exact I1.after hq
  | .ok .next, hq => exact hq.elim
  | .ok .brk, hq => exact hq.elim
  | .ok .cont, hq => exact hq.elim
/-- the def that calls what it is handed: TT, what it makes of the lambda -/
def GivesN (X : Cx) (Ng : List Str) (x : Str) (sg : Scope) (g : Addr) (cdg : Value) (bg : List Stmt) (a q : Str) (k : Nat) (TT : (XK → Hp → VK → Prop) → Hp → VK → Prop) : Prop :=
  ∀ (f c' : Addr) (s : Shared) (H : Hp) (Q : VK) (tl : XK → Hp → VK → Prop), Room (k + 1) (X.A.deeper (envOfC x sg s.heap.objs.size g cdg)) →
    (∀ (W : WX) (pn : List (Addr × Obj)) (xe : Value → Shared → Prop) (E : XK) (p1 p2 : Pos), L2N.Takes ((cxOf C8.CX0 X.prog X.w X.K X.mg X.base Ng x sg g cdg X.A X.stack s H C8.E0).tr pn xe) W → (∀ cls d σ' H', E cls d H' → W cls d σ' H') →
      PE ((cxOf C8.CX0 X.prog X.w X.K X.mg X.base Ng x sg g cdg X.A X.stack s H C8.E0).tr pn xe) (.Call (.Name a p1) [] [] p2) (fun σZ HZ Q => σZ[0]? = some (some (.ref f)) ∧ HZ c' = some (CodeO c' q) ∧ tl E HZ Q)) →
    H c' = some (CodeO c' q) → TT tl H Q →
    ∃ t, PSs (cxOf C8.CX0 X.prog X.w X.K X.mg X.base Ng x sg g cdg X.A X.stack s H C8.E0).nox bg t ∧ t { nx := fun _ H' => Q .non H', rt := Q } (L2.start Ng [.ref f]) H
/-- the lambda's making and the call, read -/
def tLamN (T : List NTab) (TT : (XK → Hp → VK → Prop) → Hp → VK → Prop) (t : XK → TE) : TE := fun σ H Q => TabsN T H ∧ ∀ H1, ExtN H H1 → (∀ b, H1 b = none → H b = none) → TabsN T H1 → TT (fun E H' Q' => t E σ H' Q') H1 Q
theorem pe_lamN {T : List NTab} {nm : Nat → Nat → Str} {TT : (XK → Hp → VK → Prop) → Hp → VK → Prop} {x a : Str} {g c P : Addr} {k : Nat} {pg : Arguments} {bg : List Stmt} {sg : Scope} {dV kV doc pm cdv ct oc : Value} {an od : Option Addr} {osl : Array (Option Value)} {Ng : List Str}
    {params : Arguments} {body : Expr} {scope : Scope} {t : XK → TE} {p lpos pos : Pos} (hg : Gl X x) (hm : X.mg x = some (.ref g)) (hk : PySem.W.keepIn X.K (.ref g) = true) (lk : X.K.lookup g = some ⟨oc, od, .func (PySem.W.fnOf x x pg bg sg dV kV doc pm an cdv ct), osl⟩) (hcg : PySem.W.codeIn X.K cdv x = true)
    (hb : L2.Binds X.K (PySem.W.fnOf x x pg bg sg dV kV doc pm an cdv ct) [a] []) (Sg : FnScope Ng [a] sg) (hNg : Ng[0]? = some a) (hva : Vis sg a) (hG : GivesN X Ng x sg g cdv bg a (X.env.qual ++ "<lambda>") k TT) (TB : TabB X.base X.mg c P) (hcode : X.env.code = .ref c) (hmT : (P, nm) ∈ T)
    (hn : nm lpos.line lpos.col = X.env.qual ++ "<lambda>") (hu : ∀ p ∈ T, p.1 = P → p.2 = nm) (hr : Room (k + 2) X.A) (L : LamS X.env.scope scope) (hdef : defaultsOf params X.env = ([], [])) (hbind : ∀ (q : Str) (cl : List (Str × Addr)) (pm cv ctv : Value), bindArgs (PySem.W.kla_fn "<lambda>" q params body scope cl pm cv ctv) ⟨[], []⟩ = pure [])
    (hbody : ∀ (A : Around) (outer : List Env) (s : Shared) (H : Hp) (E : XK) (f c' : Addr), Room k (A.deeper (lamEnv X scope s.heap.objs.size f c')) → PE (lamCxN X A outer s H E scope f c') body (t E))
    (hdb : (x == ("__debug__" : Str)) = false := by decide) (hd : (a == ("__debug__" : Str)) = false := by decide) (hcd : (a == ("__classdict__" : Str)) = false := by decide) : PE X (.Call (.Name x p) [.Lambda params body scope lpos] [] pos) (tLamN T TT t) := by
  refine ⟨fun pins s σ H Q I ⟨hT, h⟩ => wpAny_Call_Name_kw (ld_glob I hg hm (PySem.W.callWith_K (h₀ := X.base) I.ok.mod.kin hk ?_ (by rfl) (by rfl)) hdb)⟩
  show wpAny _ _ (spliced ((false, eval (.Lambda params body scope lpos) X.env) :: backTo pos (starEach [] X.env))) _ _ s
  refine Calls.spliced_cons (lam_made I TB hcode hmT hn hu hT hdef (L.has I.ok) fun f c' pm' ctv H1 s' I1 eN nN T1 hf hfn hfr hco => Calls.spliced_nil ⟨I1.kIn, ?_⟩)
  have run : codeAny (model X.prog X.w) X.A (.call (.ref g) ⟨[.ref f], []⟩) (CR C8.CX0 X.stack X.prog X.w H1 s' Q C8.E0) s' := by
    refine LamX.run_ofS (k := k + 1) (N := Ng) (ps := [a]) (us := [.ref f]) (vs := [.ref f]) lk hcg Sg hr I1.env0 (hb s' [.ref f] I1.kIn rfl) (.cons rfl .nil) rfl fun hr' => ?_
    obtain ⟨t', ht', hq'⟩ := hG f c' s' H1 Q (fun E H' Q' => t E σ H' Q') hr' (fun W pn xe E p1 p2 tk hW => pe_actN (i := 0) I1 L hf hfn hfr (hbind _ _ _ _ _) tk hW hr' (fun A outer s H hr2 => hbody A outer s H E f c' hr2) hNg hva hd hcd) hco (h H1 eN nN T1)
    exact ⟨t', ht'.nox, hq'⟩
  refine wpAny_call (codeAny_mono run fun r s2 hq => ?_)
  match r, hq with
  | .error e, hq => exact (show False from hq).elim
  | .ok (.ret u), hq => exact I1.after hq
  | .ok .next, hq => exact hq.elim
  | .ok .brk, hq => exact hq.elim
  | .ok .cont, hq => exact hq.elim
end
end DH
end

section
set_option Elab.async false
set_option linter.all false
set_option maxRecDepth 100000
set_option maxHeartbeats 400000
/-! DH6: _law_names called in a suite; _law_error and _law_told. -/
namespace DH
open PySem PySem.Spec PyProof.Rows HotX L2 L2H DL
variable [Tbl]
open LamX (TabB LamS lamEnv lamCx CodeO ExtN)
open NdefX (NTab TabN)
abbrev NoTbl (G : Hp) : Prop := ∀ b o, G b = some o → isTbl o = false
/-- the heap later, old things as they were -/
def After (T : List NTab) (G H G' H' : Hp) : Prop := GE G G' ∧ GE G' H' ∧ NoTbl G' ∧ (∀ b, G' b ≠ none → G b ≠ none ∨ H b = none) ∧ BgOk H H' ∧ TabsOk T H'
/-- the def at g tells the class D by z, called with the handled exception -/
def NamesOk (P : Program) (w : World) (K : PySem.W.Frag) (mg : Str → Option Value) (base : Heap) (k : Nat) (g D : Addr) (z : Str) : Prop :=
  ∀ (A : Around) (outer : List Env) (s : Shared) (H : Hp) (p : Addr × Obj) (Q : VK) (G : Hp) (T : List NTab), RoomH k A → Hot1 A p → PinOk outer H s p → Env0 P w K mg base A outer s H → Zc (.ref D) none p.2 → (∃ vs, p.2.data = .fields vs) → GE G H → NoTbl G → TabsOk T H →
    (∀ G' H', After T G H G' H' → Q (.str z) H') → codeAny (model P w) A (.call (.ref g) ⟨[.ref p.1], []⟩) (CR (L2N.CX P w) outer P w H s Q fun _ _ _ => False) s
theorem start_one {N : List Str} {a : V} : (L2.start (N : List Str) [a])[0]? = some (some a) := rfl
theorem rp_entryE {K : PySem.W.Frag} {G H : Hp} {T : List NTab} {n : Nat} {N : List Str} {a : Addr} (le : GE G H) (nt : NoTbl G) (tb : TabsOk T H) (hN : N.length = n + 1) :
    Rp K ⟨H, G, fun _ => False, fun _ => false, [], T⟩ G H (L2.start N [.ref a]) (some (.op a) :: List.replicate n none) where
  le := le
  nt := nt
  bg := fun b o h _ _ => ⟨fun _ => h, fun z => nomatch z⟩
  mt := fun b z => z.elim
  tb := fun b o h _ => by
    have h : H b = some o := h
    rw [h]; simp
  new := fun b h => .inl h
  ge := fun b o h => ⟨fun _ => h, fun z => nomatch z⟩
  pr := fun p hp => nomatch hp
  tabs := tb
  len := by
    unfold L2.start
    simp [hN]
  slot := fun i v dv h1 h2 => by
    cases i with
    | zero =>
      have h1 : some (some (V.ref a)) = some (some v) := h1
      cases h1
      have h2 : some (some (DV.op a)) = some (some dv) := h2
      cases h2
      rfl
    | succ i =>
      have h2 : (List.replicate n (none : Option DV))[i]? = some (some dv) := h2
      rw [List.getElem?_replicate] at h2
      split at h2 <;> cases h2
  has := fun i dv h => by
    cases i with
    | zero => exact ⟨.ref a, rfl⟩
    | succ i =>
      have h : (List.replicate n (none : Option DV))[i]? = some (some dv) := h
      rw [List.getElem?_replicate] at h
      split at h <;> cases h
  apart := fun i j v dv dv' hij h1 h2 h3 h4 => by
    cases i with
    | zero =>
      have h3 : some (some (DV.op a)) = some (some dv) := h3
      cases h3
      exact .inl rfl
    | succ i =>
      have h3 : (List.replicate n (none : Option DV))[i]? = some (some dv) := h3
      rw [List.getElem?_replicate] at h3
      split at h3 <;> cases h3
section
variable {P : Program} {w : World} {K : PySem.W.Frag} {mg : Str → Option Value} {base : Heap} {cv : Str → Value}
theorem names_of {x en : Str} {st : Stmt} {g : Addr} {fd : FuncData} {N : List Str} {k n : Nat} {D : Addr} {z : Str} {δ : Addr → DS} (Fn : Fun K x x st g fd) (S : FnScope N [en] (defScope st)) (hN : N.length = n + 1) (hb : Binds K fd [en] [])
    (hbody : ∀ (cdv : Value) (A : Around) (outer : List Env) (s : Shared) (H : Hp) (E : XK) (p : Addr × Obj), Hot1 A p → Zc (.ref D) none p.2 → (∃ vs, p.2.data = .fields vs) → DSs (cxH (L2N.CX P w) P w K mg base N x (defScope st) g cdv A outer s H E p) cv W0 (defBody st) (δ p.1))
    (hδ : ∀ a, ∃ ρ', δ a (some (.op a) :: List.replicate n none) = .ok (.rt (.sh (.str z))) ρ') : NamesOk P w K mg base (k + 1) g D z := by
  intro A outer s H p Q G T hr hot hpin e0 hz hv le nt tb hq
  obtain ⟨oc, od, kV, doc, pm, an, cdv, ct, osl, rfl, lk, hcd⟩ := Fn.ex
  have KX : K.In s.heap := e0.mod.kin.keeps fun b o e => (e0.bs b o e).1
  have lim : s.heap.NoLimit := e0.mod.nolimit.keeps fun b o e => (e0.bs b o e).1
  have kinds : ∀ y ∈ [en].zip [Value.ref p.1], (defScope st).names.lookup y.1 = some .local ∨ ((defScope st).names.lookup y.1 = some .cell ∧ ((cellsFrom (s.heap.objs.size + 1) (defScope st).names []).lookup y.1).isSome = true) := fun y hy =>
    (S.par y.1 (List.of_mem_zip (show (y.1, y.2) ∈ _ from hy)).1).imp id fun q => ⟨q, PySem.W.cellsFrom_some _ _ _ (.inl q)⟩
  refine codeAny_call_function hr.depth (KX _ _ lk) rfl S.co S.gen rfl (PySem.W.codeRec_of KX hcd) (hb s [.ref p.1] KX rfl _ _ _ _ (wpAny_newFunctionEnv_cells S.kind kinds fun env he s1 x => ?_))
  subst he
  refine ⟨lim.keeps x.toInCall.keep, codeAny_func ?_⟩
  have I := inv_startH (CX := L2N.CX P w) (E := fun _ _ _ => False) (vs := [V.ref p.1]) S hpin e0 rfl (.cons rfl .nil) x
  obtain ⟨ρ', hd⟩ := hδ p.1
  refine wpAny_mono ((hbody cdv A outer s H (fun _ _ _ => False) p hot hz hv).run [] s1 (L2.start N [.ref p.1]) H { nx := fun _ _ => False, rt := Q } I ⟨_, G, _, rp_entryE le nt tb hN, ?_⟩) (fun fl s' hs => ?_) fun e s' hs => hs
  · rw [hd]
    intro v σ' H' G' rp ge hv
    have hv : RD K G' v (.str z) := hv
    cases hv
    have y := rp_exit rp
    exact hq G' H' ⟨y.2.2, rp.le, rp.nt, y.2.1, y.1, rp.tabs⟩
  · match fl, hs with
    | .ret u, ⟨v, σ', H', J, rv, q⟩ => exact ⟨v, H', J.os, J.bare, J.base, J.hok, rv, q⟩
    | .next, ⟨σ', H', J, q⟩ => exact q.elim
    | .brk, ⟨_, _, _, q⟩ => exact False.elim q
    | .cont, ⟨_, _, _, q⟩ => exact False.elim q
end
/-- the call of the names in a suite -/
def tNames (T0 : List NTab → Hp → Hp → VK → Prop) (i : Nat) (a : Addr) : TE := fun σ H Q => σ[i]? = some (some (.ref a)) ∧ ∃ G T, T0 T G H Q
theorem pe_names {Y : Cx} {k i : Nat} {a g D : Addr} {oe : Obj} {z nmx en : Str} {p5 p6 p7 : Pos} (NM : NamesOk Y.prog Y.w Y.K Y.mg Y.base k g D z) (hp : (a, oe) ∈ Y.pn) (hot : Hot1 Y.A (a, oe)) (hz : Zc (.ref D) none oe) (hf : ∃ vs, oe.data = .fields vs) (hr : RoomH k Y.A)
    (hm : Y.mg nmx = some (.ref g)) (hk : PySem.W.keepIn Y.K (.ref g) = true) (hv : PE Y (.Name en p6) (tVar i)) (hg : Gl Y nmx := by rfl) (hdb : (nmx == ("__debug__" : Str)) = false := by decide)
    (he : starEach (.Name en p6 :: []) Y.env = (false, eval (.Name en p6) Y.env) :: starEach [] Y.env := by rfl) (hpl : (backTo p7 (starEach [] Y.env)).any (·.1) = false := by rfl) :
    PE Y (.Call (.Name nmx p5) [.Name en p6] [] p7) (tNames (fun T G H Q => GE G H ∧ NoTbl G ∧ TabsOk T H ∧ ∀ G' H', After T G H G' H' → Q (.str z) H') i a) := by
  refine ⟨fun pins s σ H Q I ⟨hs, G, T, le, nt, tb, q⟩ => wpAny_Call_Name_kw (ld_glob I hg hm (PySem.W.callWith_K (h₀ := Y.base) I.ok.mod.kin hk (thn ((pa_cons hv pa_nil he).run p7 pins s σ H (fun vs H1 => vs = [.ref a] ∧ H1 = H) I ⟨.ref a, hs, rfl, rfl⟩) fun us s1 ⟨vs, H1, I1, r, q1, q2⟩ => ⟨I1.kIn, ?_⟩) he hpl) hdb)⟩
  subst q1 q2
  have eu : us = [.ref a] := by
    cases r with
    | cons r1 r2 => cases r2; cases r1; rfl
  subst eu
  have P1 := I1.pin (a, oe) (List.mem_append_left _ hp)
  have hpin : PinOk Y.stack H1 s1 (a, oe) := ⟨P1.1, P1.2.1, fun hm => (List.mem_cons.mp (I1.stkSub _ hm)).elim P1.2.2.1 P1.2.2.2.1, P1.2.2.2.2⟩
  refine wpAny_call (codeAny_mono (NM Y.A Y.stack s1 H1 (a, oe) Q G T hr hot hpin I1.env0 hz hf le nt tb q) fun r s' hq => ?_)
  match r, hq with
  | .error e, ⟨_, _, _, _, _, _, _, _, _, _, _, _, z⟩ => exact z.elim
  | .ok (.ret u), hq => exact I1.after hq
  | .ok .next, hq => exact hq.elim
  | .ok .brk, hq => exact hq.elim
  | .ok .cont, hq => exact hq.elim
end DH
end

section
set_option Elab.async false
set_option linter.all false
set_option maxRecDepth 100000
set_option maxHeartbeats 400000
/-! DH7: what _law_error and _law_told make of a lambda. -/
namespace DH
open PySem PySem.Spec PyProof.Rows HotX L2 L2H DL
variable [Tbl]
open LamX (TabB LamS lamEnv lamCx CodeO ExtN)
open NdefX (NTab TabN)
section
variable (P : Program) (w : World) (K : PySem.W.Frag) (mg : Str → Option Value) (base : Heap) (kn : Nat) (gN CS : Addr)
/-- the exception is caught and named -/
def Hnd (Q : Str → Hp → Prop) : XK := fun cls d H' => d = none ∧ ∃ D z G T, cls = .ref D ∧ NamesOk P w K mg base kn gN D z ∧ PySem.W.exmOne K (.ref D) (.ref CS) = some true ∧ GE G H' ∧ NoTbl G ∧ TabsOk T H' ∧ ∀ G2 H2, After T G H' G2 H2 → Q z H2
def TTE (ret : Str) : (XK → Hp → VK → Prop) → Hp → VK → Prop := fun tl H Q => tl (Hnd P w K mg base kn gN CS fun z H2 => Q (.str z) H2) H fun _ H' => Q (.str ret) H'
def TTT (ret : Str) : (XK → Hp → VK → Prop) → Hp → VK → Prop := fun tl H Q =>
  tl (Hnd P w K mg base kn gN CS fun z H2 => ∀ t, H2 t = none → Q (.ref t) (upd H2 t (.tup [.non, .str z]))) H fun v H' => [v, V.str ret].length ≤ sizeLine ∧ ∀ t, H' t = none → Q (.ref t) (upd H' t (.tup [v, .str ret]))
end
section
variable {X : Cx} {Ng : List Str} {x a e en nmx q ret : Str} {sg : Scope} {g gN CS : Addr} {cdg : Value} {j k kn kk1 kk2 jn : Nat} {p1 p2 p3 p4 p5 p6 p7 p8 p9 p10 p11 p12 p13 p14 p15 : Pos}
/-- the suite's reading -/
def tSuite (X : Cx) (kn : Nat) (gN CS : Addr) (u : Str → Ends → Hp → Prop) : Addr → Value → Option Addr → TS := fun a cls d D σ H => (∃ σ0 : L2.St, σ = σ0.set 1 (some (.ref a))) ∧
  d = none ∧ ∃ C z G T, cls = .ref C ∧ NamesOk X.prog X.w X.K X.mg X.base kn gN C z ∧ GE G H ∧ NoTbl G ∧ TabsOk T H ∧ ∀ G2 H2, After T G H G2 H2 → u z D H2
theorem error_gives (hge : sg.names.lookup e = some .globalImplicit) (hgn : sg.names.lookup nmx = some .globalImplicit) (hen : sg.names.lookup en = some .local) (hme : X.mg e = some (.ref CS)) (hmn : X.mg nmx = some (.ref gN)) (hkn : PySem.W.keepIn X.K (.ref gN) = true) (hde : (e == ("__debug__" : Str)) = false) (hdn : (nmx == ("__debug__" : Str)) = false)
    (hdl : (en == ("__debug__" : Str)) = false) (hcl : (en == ("__classdict__" : Str)) = false) (hNd : Ng.Nodup) (hN0 : Ng = [a, en]) (hkk : kn ≤ k + 1) :
    GivesN X Ng x sg g cdg [.Try [.Expr (.Call (.Name a p1) [] [] p2) p3] [.ExceptHandler (some (.Name e p4)) (some en) [.Return (some (.Call (.Name nmx p5) [.Name en p6] [] p7)) p8] p9] [] [] p10, .Return (some (.Constant (.str ret) j p11)) p12] a q k (TTE X.prog X.w X.K X.mg X.base kn gN CS ret) := by
  subst hN0
  intro f c' s H Q tl hr act hc h
  have hgl : Gl (cxOf C8.CX0 X.prog X.w X.K X.mg X.base [a, en] x sg g cdg X.A X.stack s H C8.E0).nox e := hge
  refine ⟨_, pss_cons (L2N.ps_try_as (X := (cxOf C8.CX0 X.prog X.w X.K X.mg X.base [a, en] x sg g cdg X.A X.stack s H C8.E0).nox) (c := .ref CS) (i := 1) (Wout := W0)
      (tb := fun W D σ H => ∃ Ech : XK, (∀ cls d σ' H', Ech cls d H' → W cls d σ' H') ∧ σ[0]? = some (some (.ref f)) ∧ H c' = some (CodeO c' q) ∧ tl Ech H fun _ H' => D.nx σ H')
      (ts := tSuite X kn gN CS fun z D H2 => D.rt (.str z) H2) rfl rfl hNd rfl hen ⟨hgl, hde, .inl hme⟩ takesW0 (fun W pn xe tk _ => ?_) (fun a0 oe cls d pn hz hf => ?_)) (pss_one (ps_ret pe_str)), ?_⟩
  · refine ⟨fun pins s' σ H' D I ⟨Ech, hW, h1, h2, h3⟩ => ?_⟩
    exact (pss_one (ps_expr (pos := p3) (act W pn xe Ech p1 p2 tk hW))).run pins s' σ H' D I ⟨h1, h2, h3⟩
  · refine ⟨fun pins s' σ H' D I ⟨h1, hd, C, z, G, T, hcl', NM, le, nt, tb, hu⟩ => ?_⟩
    subst hd hcl'
    obtain ⟨vs, hv⟩ := hf
    have pn := pe_names (i := 1) (p5 := p5) (p6 := p6) (p7 := p7) (Y := ((cxOf C8.CX0 X.prog X.w X.K X.mg X.base [a, en] x sg g cdg X.A X.stack s H C8.E0).nox).suite a0 ((a0, oe) :: pn)) NM List.mem_cons_self ⟨rfl, vs, hv, hz.2.2 vs hv⟩ hz.zc ⟨vs, hv⟩ ⟨(hr.mono hkk).dp, (hr.mono hkk).un⟩ hmn hkn (pe_var (i := 1) rfl (.inl hen) hdl hcl) hgn hdn
    obtain ⟨σ0, rfl⟩ := h1
    have hl : 1 < σ0.length := by
      have := I.len
      rw [List.length_set] at this
      rw [this]
      exact Nat.lt_succ_self 1
    exact (pss_one (ps_ret (pos := p8) pn)).run pins s' _ H' D I ⟨List.getElem?_set_self hl, G, T, le, nt, tb, hu⟩
  · refine ⟨Hnd X.prog X.w X.K X.mg X.base kn gN CS fun z H2 => Q (.str z) H2, fun cls d σ' H' ⟨hd, D, z, G, T, hcls, NM, hex, le, nt, tb, hu⟩ => ?_, rfl, hc, h⟩
    refine ⟨true, by rw [hcls]; exact hex, fun _ b hb => ?_, fun hb => nomatch hb⟩
    exact ⟨⟨_, rfl⟩, hd, D, z, G, T, hcls, NM, le, nt, tb, hu⟩
theorem told_gives (hge : sg.names.lookup e = some .globalImplicit) (hgn : sg.names.lookup nmx = some .globalImplicit) (hen : sg.names.lookup en = some .local) (hme : X.mg e = some (.ref CS)) (hmn : X.mg nmx = some (.ref gN)) (hkn : PySem.W.keepIn X.K (.ref gN) = true) (hde : (e == ("__debug__" : Str)) = false) (hdn : (nmx == ("__debug__" : Str)) = false)
    (hdl : (en == ("__debug__" : Str)) = false) (hcl : (en == ("__classdict__" : Str)) = false) (hNd : Ng.Nodup) (hN0 : Ng = [a, en]) (hkk : kn ≤ k + 1) :
    GivesN X Ng x sg g cdg [.Try [.Return (some (.Tuple [.Call (.Name a p1) [] [] p2, .Constant (.str ret) j p11] kk1 p12)) p3] [.ExceptHandler (some (.Name e p4)) (some en) [.Return (some (.Tuple [.Constant .none jn p13, .Call (.Name nmx p5) [.Name en p6] [] p7] kk2 p14)) p8] p9] [] [] p10] a q k (TTT X.prog X.w X.K X.mg X.base kn gN CS ret) := by
  subst hN0
  intro f c' s H Q tl hr act hc h
  have hgl : Gl (cxOf C8.CX0 X.prog X.w X.K X.mg X.base [a, en] x sg g cdg X.A X.stack s H C8.E0).nox e := hge
  have two : ∀ v u : V, [v, u].length ≤ sizeLine := fun _ _ => by rw [sizeLine_eq]; simp
  refine ⟨_, pss_one (L2N.ps_try_as (X := (cxOf C8.CX0 X.prog X.w X.K X.mg X.base [a, en] x sg g cdg X.A X.stack s H C8.E0).nox) (c := .ref CS) (i := 1) (Wout := W0)
      (tb := fun W D σ H => ∃ Ech : XK, (∀ cls d σ' H', Ech cls d H' → W cls d σ' H') ∧ σ[0]? = some (some (.ref f)) ∧ H c' = some (CodeO c' q) ∧ tl Ech H fun v H' => [v, V.str ret].length ≤ sizeLine ∧ ∀ t, H' t = none → D.rt (.ref t) (upd H' t (.tup [v, .str ret])))
      (ts := tSuite X kn gN CS fun z D H2 => ∀ t, H2 t = none → D.rt (.ref t) (upd H2 t (.tup [.non, .str z]))) rfl rfl hNd rfl hen ⟨hgl, hde, .inl hme⟩ takesW0 (fun W pn xe tk _ => ?_) (fun a0 oe cls d pn hz hf => ?_)), ?_⟩
  · refine ⟨fun pins s' σ H' D I ⟨Ech, hW, h1, h2, h3⟩ => ?_⟩
    exact (pss_one (ps_ret (pos := p3) (pe_tup (pa_cons (act W pn xe Ech p1 p2 tk hW) (pa_cons pe_str pa_nil))))).run pins s' σ H' D I ⟨h1, h2, h3⟩
  · refine ⟨fun pins s' σ H' D I ⟨h1, hd, C, z, G, T, hcl', NM, le, nt, tb, hu⟩ => ?_⟩
    subst hd hcl'
    obtain ⟨vs, hv⟩ := hf
    have pn := pe_names (i := 1) (p5 := p5) (p6 := p6) (p7 := p7) (Y := ((cxOf C8.CX0 X.prog X.w X.K X.mg X.base [a, en] x sg g cdg X.A X.stack s H C8.E0).nox).suite a0 ((a0, oe) :: pn)) NM List.mem_cons_self ⟨rfl, vs, hv, hz.2.2 vs hv⟩ hz.zc ⟨vs, hv⟩ ⟨(hr.mono hkk).dp, (hr.mono hkk).un⟩ hmn hkn (pe_var (i := 1) rfl (.inl hen) hdl hcl) hgn hdn
    obtain ⟨σ0, rfl⟩ := h1
    have hl : 1 < σ0.length := by
      have := I.len
      rw [List.length_set] at this
      rw [this]
      exact Nat.lt_succ_self 1
    exact (pss_one (ps_ret (pos := p8) (pe_tup (pa_cons pe_non (pa_cons pn pa_nil))))).run pins s' _ H' D I ⟨List.getElem?_set_self hl, G, T, le, nt, tb, fun G2 H2 af => ⟨two _ _, hu G2 H2 af⟩⟩
  · refine ⟨Hnd X.prog X.w X.K X.mg X.base kn gN CS fun z H2 => ∀ t, H2 t = none → Q (.ref t) (upd H2 t (.tup [.non, .str z])), fun cls d σ' H' ⟨hd, D, z, G, T, hcls, NM, hex, le, nt, tb, hu⟩ => ?_, rfl, hc, h⟩
    refine ⟨true, by rw [hcls]; exact hex, fun _ b hb => ?_, fun hb => nomatch hb⟩
    exact ⟨⟨_, rfl⟩, hd, D, z, G, T, hcls, NM, le, nt, tb, hu⟩
end
end DH
end

section
set_option Elab.async false
set_option linter.all false
set_option maxRecDepth 100000
set_option maxHeartbeats 400000
/-! DH8: _law_error(lambda: ..), _law_told(lambda: ..) as expressions of data. -/
namespace DH
open PySem PySem.Spec PyProof.Rows HotX L2 L2H DL
variable [Tbl]
open LamX (TabB LamS lamEnv lamCx CodeO ExtN)
open NdefX (NTab TabN)
section
variable {K : PySem.W.Frag} {e : Ent} {G H H1 G' H' : Hp} {σ : L2.St} {ρ : Rho}
theorem _root_.DL.Rp.later (rp : Rp K e G H σ ρ) (af : After e.T G H G' H') : Rp K e G' H' σ ρ := by
  obtain ⟨g1, g2, g3, g4, g5, g6⟩ := af
  have z := rp.after (GE.refl G) (fun b o h => .inl h) g1 g2 g3 g4 g5 g6 rp.le
  have eG : (fun b => if G b = none ∧ G b ≠ none then none else G' b) = G' := by
    funext b
    rw [if_neg (fun c => c.2 c.1)]
  rw [eG] at z
  exact z.1
/-- tables and a code object come, all else stays -/
theorem _root_.DL.Rp.coded (r : Rp K e G H σ ρ) (x : ExtN H H1) (n : ∀ b, H1 b = none → H b = none) (t : TabsOk e.T H1) : Rp K e G H1 σ ρ := by
  have k : ∀ b o, H b = some o → isTbl o = false → H1 b = some o := fun b o h q => x b o h fun ps z => by rw [z] at q; cases q
  have own : ∀ {a : Addr} {c : OC}, OwnAt K G H a c → OwnAt K G H1 a c := fun {a c} o => by
    obtain ⟨u, hu, ht, _⟩ := o.there
    exact o.mono (GE.refl G).rd fun u' hu' => by rw [hu] at hu'; cases hu'; exact k a u hu ht
  refine ⟨fun b o h => k b o (r.le b o h) (r.nt b o h), r.nt, fun b o h m q => ⟨fun l => k b o ((r.bg b o h m q).1 l) q, fun l => ?_⟩, fun b m z => r.mt b m (n b z), fun b o h q z => r.tb b o h q (n b z), r.new, r.ge, fun p hp => ⟨k _ _ (r.pr p hp).1 (r.pr p hp).2.2.2, (r.pr p hp).2⟩, t, r.len, fun i v dv h1 h2 => ?_, r.has, r.apart⟩
  · obtain ⟨ob, z⟩ := (r.bg b o h m q).2 l
    exact ⟨ob, k _ _ z rfl⟩
  · have s := r.slot i v dv h1 h2
    cases dv with
    | sh d => exact s
    | ow c => obtain ⟨a, z1, z2, z3, z4, z5⟩ := s; exact ⟨a, z1, z2, z3, z4, own z5⟩
    | mu c => obtain ⟨a, z1, z2, z3, z4, z5⟩ := s; exact ⟨a, z1, z2, z3, z4, own z5⟩
    | op a => exact s
    | bw i => exact s
end
def dErr (ret : Str) (nmc : Str → Option Str) (δ : DE) : DE := fun ρ => match δ ρ with
  | .bad => .bad
  | .ok _ ρ1 => .ok (.sh (.str ret)) ρ1
  | .exc c ρ1 => match nmc c with
    | some z => .ok (.sh (.str z)) ρ1
    | none => .bad
def dTold (ret : Str) (nmc : Str → Option Str) (δ : DE) : DE := fun ρ => match δ ρ with
  | .bad => .bad
  | .ok x ρ1 => (coerce x ρ1).bind fun d ρ2 => .ok (.sh (.tuple [d, .str ret])) ρ2
  | .exc c ρ1 => match nmc c with
    | some z => .ok (.sh (.tuple [.none, .str z])) ρ1
    | none => .bad
/-- the exceptions that are told -/
def Told (P : Program) (w : World) (K : PySem.W.Frag) (mg : Str → Option Value) (base : Heap) (kn : Nat) (gN CS : Addr) (cv : Str → Value) (nmc : Str → Option Str) : Prop :=
  ∀ c z, nmc c = some z → ∃ D, cv c = .ref D ∧ NamesOk P w K mg base kn gN D z ∧ PySem.W.exmOne K (.ref D) (.ref CS) = some true
section
variable {X : Cx} {cv : Str → Value} {W : WX}
theorem err_read {T : List NTab} {kn : Nat} {gN CS : Addr} {ret : Str} {nmc : Str → Option Str} {δ : DE} (hT : T = Tbl.T) (hnm : Told X.prog X.w X.K X.mg X.base kn gN CS cv nmc) {σ : L2.St} {H : Hp} {Q : VK} (h : tD X.K cv W (dErr ret nmc δ) σ H Q) :
    tLamN T (TTE X.prog X.w X.K X.mg X.base kn gN CS ret) (fun E => tD X.K cv (fun cls d _ H => E cls d H) δ) σ H Q := by
  obtain ⟨e, G, ρ, rp, p⟩ := h
  have eT : e.T = T := by rw [rp.tabs.1, hT]
  refine ⟨eT ▸ rp.tabs.2, fun H1 x n t => ?_⟩
  have rp1 := rp.coded x n ⟨rp.tabs.1, eT ▸ t⟩
  refine ⟨e, G, ρ, rp1, ?_⟩
  unfold dErr at p
  cases q : δ ρ with
  | bad => rw [q] at p; exact p.elim
  | ok y ρ1 =>
    rw [q] at p
    exact fun H' G' rp' ge v _ => p H' G' rp' ge _ (.str ret)
  | exc c ρ1 =>
    rw [q] at p
    dsimp only at p
    cases q2 : nmc c with
    | none => rw [q2] at p; exact p.elim
    | some z =>
      rw [q2] at p
      obtain ⟨D, h1, h2, h3⟩ := hnm c z q2
      exact fun H' G' rp' ge => ⟨rfl, D, z, G', e.T, h1, h2, h3, rp'.le, rp'.nt, rp'.tabs, fun G2 H2 af => p H2 G2 (rp'.later af) (ge.trans af.1) _ (.str z)⟩
theorem told_read {T : List NTab} {kn : Nat} {gN CS : Addr} {ret : Str} {nmc : Str → Option Str} {δ : DE} (hT : T = Tbl.T) (hnm : Told X.prog X.w X.K X.mg X.base kn gN CS cv nmc) {σ : L2.St} {H : Hp} {Q : VK} (h : tD X.K cv W (dTold ret nmc δ) σ H Q) :
    tLamN T (TTT X.prog X.w X.K X.mg X.base kn gN CS ret) (fun E => tD X.K cv (fun cls d _ H => E cls d H) δ) σ H Q := by
  obtain ⟨e, G, ρ, rp, p⟩ := h
  have eT : e.T = T := by rw [rp.tabs.1, hT]
  refine ⟨eT ▸ rp.tabs.2, fun H1 x n t => ?_⟩
  have rp1 := rp.coded x n ⟨rp.tabs.1, eT ▸ t⟩
  refine ⟨e, G, ρ, rp1, ?_⟩
  unfold dTold at p
  cases q : δ ρ with
  | bad => rw [q] at p; exact p.elim
  | ok y ρ1 =>
    rw [q] at p
    dsimp only at p
    intro H' G' rp' ge v hv
    cases q2 : coerce y ρ1 with
    | bad => rw [q2] at p; exact p.elim
    | exc c r => exact absurd q2 coerce_noexc
    | ok d ρ2 =>
      rw [q2] at p
      obtain ⟨G2, rp2, ge2, rd⟩ := coerce_ok rp' hv q2
      refine ⟨by rw [sizeLine_eq]; simp, fun t ht => ?_⟩
      have ge3 := ge_lay (o := HO.tup [v, .str ret]) rp2 ht
      exact p _ _ (rp2.lay ht rfl) ((ge.trans ge2).trans ge3) _ (.tup upd_same (.cons (rd.mono ge3.rd) (.one (.str ret))))
  | exc c ρ1 =>
    rw [q] at p
    dsimp only at p
    cases q2 : nmc c with
    | none => rw [q2] at p; exact p.elim
    | some z =>
      rw [q2] at p
      obtain ⟨D, h1, h2, h3⟩ := hnm c z q2
      refine fun H' G' rp' ge => ⟨rfl, D, z, G', e.T, h1, h2, h3, rp'.le, rp'.nt, rp'.tabs, fun G2 H2 af t ht => ?_⟩
      have rp2 := rp'.later af
      have ge3 := ge_lay (o := HO.tup [.non, .str z]) rp2 ht
      exact p _ _ (rp2.lay ht rfl) ((ge.trans af.1).trans ge3) _ (.tup upd_same (.cons .non (.one (.str z))))
end
end DH
end

section
set_option Elab.async false
set_option linter.all false
set_option maxRecDepth 100000
set_option maxHeartbeats 400000
/-! DH9: a def handed on as a value. -/
namespace DH
open PySem PySem.Spec PyProof.Rows HotX L2 L2H DL
variable [Tbl]
/-- the def at f does F to data -/
structure FdAt (P : Program) (w : World) (K : PySem.W.Frag) (mg : Str → Option Value) (base : Heap) (cv : Str → Value) (k : Nat) (f : Addr) (F : List PyData → Option FR) : Prop where
  ex : ∃ (fd : FuncData) (ps : List Str), FnOk P w K mg base (L2N.CX P w) k f fd ps (spD K cv F) ∧ PySem.W.keepIn K (.ref f) = true ∧ Binds K fd ps []
theorem FdAt.of {P : Program} {w : World} {K : PySem.W.Frag} {mg : Str → Option Value} {base : Heap} {cv : Str → Value} {k : Nat} {x : Str} {f : Addr} {F : List PyData → Option FR} (h : Fd P w K mg base cv k x F) (hm : mg x = some (.ref f)) : FdAt P w K mg base cv k f F := by
  obtain ⟨f', fd, ps, h1, h2, h3, h4⟩ := h.ex
  rw [hm] at h2
  cases h2
  exact ⟨fd, ps, h1, h3, h4⟩
theorem FdAt.mono {P : Program} {w : World} {K : PySem.W.Frag} {mg : Str → Option Value} {base : Heap} {cv : Str → Value} {j k : Nat} {f : Addr} {F : List PyData → Option FR} (h : FdAt P w K mg base cv j f F) (l : j ≤ k) : FdAt P w K mg base cv k f F := by
  obtain ⟨fd, ps, h1, h2⟩ := h.ex
  exact ⟨fd, ps, h1.mono l, h2⟩
def dCallV (i : Nat) (f : Addr) (F : List PyData → Option FR) (δ : DA) : DE := fun ρ => match ρ[i]? with
  | some (some (DV.op f')) => if f' = f then dCall F δ ρ else .bad
  | _ => .bad
section
variable {X : Cx} {cv : Str → Value} {W : WX}
theorem de_callV {k i : Nat} {x : Str} {f : Addr} {F : List PyData → Option FR} {a : Expr} {es : List Expr} {δ : DA} {p pos : Pos} (fd : FdAt X.prog X.w X.K X.mg X.base cv k f F) (hr : Room k X.A) (tk : L2N.Takes X W) (ha : DAx X cv W (a :: es) δ) (hv : PE X (.Name x p) (tVar i))
    (he : starEach (a :: es) X.env = (false, eval a X.env) :: starEach es X.env := by rfl) (hpl : (backTo pos (starEach es X.env)).any (·.1) = false := by rfl) : DEx X cv W (.Call (.Name x p) (a :: es) [] pos) (dCallV i f F δ) := by
  obtain ⟨fdd, ps, h1, h3, h4⟩ := fd.ex
  refine ⟨fun pins s σ H Q I ⟨e, G, ρ, rp, q⟩ => ?_⟩
  unfold dCallV at q
  split at q
  · rename_i f' qf
    by_cases hf : f' = f
    · rw [if_pos hf] at q
      subst hf
      obtain ⟨v, hs⟩ := rp.has i _ qf
      have hv' : v = .ref f' := rp.slot i v _ hs qf
      subst hv'
      refine wpAny_Call_Name_kw (thn (hv.run pins s σ H (fun v H1 => v = .ref f' ∧ H1 = H) I ⟨_, hs, rfl, rfl⟩) fun u s1 ⟨v, H1, I1, r1, ev, eH⟩ => ?_)
      subst ev eH
      obtain rfl : u = Value.ref f' := r1
      refine PySem.W.callWith_K (h₀ := X.base) I1.ok.mod.kin h3 (thn (ha.run pos pins s1 σ H1 (fun vs H2 => spD X.K cv F vs H2 Q (WE W σ)) I1 ⟨e, G, ρ, rp, Post.bind q fun xs ρ1 G1 H1 rp1 ge1 p1 vs hvs => call_post rp1 hvs p1⟩) fun us s2 ⟨vs, H2, I2, r, q2⟩ => ⟨I2.kIn, ?_⟩) he hpl
      exact run_fnS (E := WE W) h1 hr h4 (L2N.passAt tk σ) I2 r q2
    · rw [if_neg hf] at q; exact q.elim
  · exact q.elim
end
/-- a def that is handed the def at f and data -/
def spV (K : PySem.W.Frag) (f : Addr) (F : List PyData → Option DV) : Sp := fun vs H Q _ => ∃ (G : Hp) (T : List NdefX.NTab) (rest : List V) (ds : List PyData), vs = .ref f :: rest ∧ GE G H ∧ (∀ b o, G b = some o → isTbl o = false) ∧ TabsOk T H ∧ RDs K G rest ds ∧
  match F ds with
  | none => False
  | some dv => ∀ v H' G', GE G G' → GE G' H' → (∀ b o, G' b = some o → isTbl o = false) → (∀ b, G' b ≠ none → G b ≠ none ∨ H b = none) → BgOk H H' → TabsOk T H' → ResOk K H G' H' v dv → Q v H'
structure FdV (P : Program) (w : World) (K : PySem.W.Frag) (mg : Str → Option Value) (base : Heap) (k : Nat) (x : Str) (f : Addr) (F : List PyData → Option DV) : Prop where
  ex : ∃ (g : Addr) (fd : FuncData) (ps : List Str), FnOk P w K mg base (L2N.CX P w) k g fd ps (spV K f F) ∧ mg x = some (.ref g) ∧ PySem.W.keepIn K (.ref g) = true ∧ Binds K fd ps []
theorem FdV.mono {P : Program} {w : World} {K : PySem.W.Frag} {mg : Str → Option Value} {base : Heap} {j k : Nat} {x : Str} {f : Addr} {F : List PyData → Option DV} (h : FdV P w K mg base j x f F) (l : j ≤ k) : FdV P w K mg base k x f F := by
  obtain ⟨g, fd, ps, h1, h2⟩ := h.ex
  exact ⟨g, fd, ps, h1.mono l, h2⟩
def entryV (n : Nat) (f : Addr) (ds : List PyData) : Rho := some (.op f) :: entryR (n - 1) ds
def bodyV (n : Nat) (f : Addr) (δ : DS) (ds : List PyData) : Option DV := match δ (entryV n f ds) with
  | .ok .nx _ => some (.sh .none)
  | .ok (.rt (.sh d)) _ => some (.sh d)
  | .ok (.rt (.ow c)) _ => some (.ow c)
  | _ => none
theorem rp_entryV {K : PySem.W.Frag} {G H : Hp} {T : List NdefX.NTab} {N : List Str} {f : Addr} {rest : List V} {ds : List PyData} (le : GE G H) (nt : ∀ b o, G b = some o → isTbl o = false) (tb : TabsOk T H) (r : RDs K G rest ds) (hl : rest.length + 1 ≤ N.length) :
    Rp K ⟨H, G, fun _ => False, fun _ => false, [], T⟩ G H (L2.start N (.ref f :: rest)) (entryV N.length f ds) := by
  have r0 := rp_entry (N := N.tail) (vs := rest) le nt tb r (by rw [List.length_tail]; omega)
  have es : L2.start N (.ref f :: rest) = some (V.ref f) :: L2.start N.tail rest := by
    unfold L2.start
    rw [List.length_tail, List.length_cons, List.map_cons, List.cons_append]
    congr 3
    omega
  have eρ : entryV N.length f ds = some (.op f) :: entryR N.tail.length ds := by
    unfold entryV
    rw [List.length_tail]
  rw [es, eρ]
  refine ⟨r0.le, r0.nt, r0.bg, r0.mt, r0.tb, r0.new, r0.ge, r0.pr, r0.tabs, by rw [List.length_cons, List.length_cons, r0.len], fun i v dv h1 h2 => ?_, fun i dv h => ?_, fun i j v dv dv' hij h1 h2 h3 h4 => ?_⟩
  · cases i with
    | zero =>
      have h1 : some (some (V.ref f)) = some (some v) := h1
      have h2 : some (some (DV.op f)) = some (some dv) := h2
      cases h1
      cases h2
      rfl
    | succ i => exact r0.slot i v dv h1 h2
  · cases i with
    | zero => exact ⟨.ref f, rfl⟩
    | succ i => exact r0.has i dv h
  · cases i with
    | zero =>
      have h3 : some (some (DV.op f)) = some (some dv) := h3
      cases h3
      exact .inl rfl
    | succ i =>
      have h3 : (entryR N.tail.length ds)[i]? = some (some dv) := h3
      obtain ⟨d, _, rfl⟩ := entry_get h3
      exact .inl rfl
section
variable {P : Program} {w : World} {K : PySem.W.Frag} {mg : Str → Option Value} {base : Heap} {cv : Str → Value}
theorem fdV_of {x : Str} {st : Stmt} {g f : Addr} {fd : FuncData} {N ps : List Str} {k : Nat} {F : List PyData → Option DV} {δ : DS} (Fn : Fun K x x st g fd) (S : FnScope N ps (defScope st)) (hm : mg x = some (.ref g)) (hb : Binds K fd ps [])
    (hbody : ∀ (cdv : Value), fd.code = cdv → ∀ (A : Around) (outer : List Env) (s : Shared) (H : Hp) (E : XK), Room k (A.deeper (envOfC x (defScope st) s.heap.objs.size g cdv)) →
      DSs (cxOf (L2N.CX P w) P w K mg base N x (defScope st) g cdv A outer s H E) cv (fun cls d _ H => E cls d H) (defBody st) δ)
    (hlen : ∀ ds r, F ds = some r → ds.length + 1 = ps.length) (hF : ∀ ds r, F ds = some r → bodyV N.length f δ ds = some r) : FdV P w K mg base (k + 1) x f F := by
  have kp := Fn.kp
  obtain ⟨oc, od, kV, doc, pm, an, cdv0, ct, osl, rfl, lk, hcd⟩ := Fn.ex
  refine ⟨g, _, ps, fn_of lk hcd S (fun vs H Q E h => ?_) (fun A outer s H vs Q E hr h => ⟨_, hbody cdv0 rfl A outer s H E hr, ?_⟩), hm, kp, hb⟩
  · obtain ⟨G, T, rest, ds, rfl, _, _, _, r, q⟩ := h
    cases e : F ds with
    | none => rw [e] at q; exact q.elim
    | some fr => simp [r.length, hlen ds fr e]
  · obtain ⟨G, T, rest, ds, rfl, le, nt, tb, r, q⟩ := h
    cases e : F ds with
    | none => rw [e] at q; exact q.elim
    | some dv =>
      rw [e] at q
      have hl : rest.length + 1 ≤ N.length := by
        rw [r.length, hlen ds dv e]
        have := congrArg List.length S.pre
        rw [List.length_take] at this
        omega
      refine ⟨_, G, entryV N.length f ds, rp_entryV le nt tb r hl, ?_⟩
      have hb := hF ds dv e
      unfold bodyV at hb
      split at hb
      · rename_i ρ' z
        cases hb
        rw [z]
        intro σ' H' G' rp ge
        have x := rp_exit rp
        exact q .non H' G' x.2.2 rp.le rp.nt x.2.1 x.1 rp.tabs .non
      · rename_i d ρ' z
        cases hb
        rw [z]
        intro v σ' H' G' rp ge hv
        have x := rp_exit rp
        exact q v H' G' x.2.2 rp.le rp.nt x.2.1 x.1 rp.tabs hv
      · rename_i c ρ' z
        cases hb
        rw [z]
        intro v σ' H' G' rp ge hv
        have x := rp_exit rp
        obtain ⟨a, h1, h2, h3, _, h5, _⟩ := hv
        exact q v H' G' x.2.2 rp.le rp.nt x.2.1 x.1 rp.tabs ⟨a, h1, h2, h3, h5⟩
      · cases hb
end
def dCallFV (F : List PyData → Option DV) (δ : DA) : DE := fun ρ => (δ ρ).bind fun xs ρ1 => (coerceAll xs ρ1).bind fun ds ρ2 => match F ds with
  | some dv => .ok dv ρ2
  | none => .bad
section
variable {X : Cx} {cv : Str → Value} {W : WX}
theorem de_callFV {k : Nat} {x fx : Str} {f : Addr} {F : List PyData → Option DV} {es : List Expr} {δ : DA} {p p1 pos : Pos} (fd : FdV X.prog X.w X.K X.mg X.base k x f F) (hr : Room k X.A) (hmf : X.mg fx = some (.ref f)) (ha : DAx X cv W es δ) (hg : Gl X x := by rfl) (hgf : Gl X fx := by rfl)
    (hdb : (x == ("__debug__" : Str)) = false := by decide) (hdf : (fx == ("__debug__" : Str)) = false := by decide) (he : starEach (.Name fx p1 :: es) X.env = (false, eval (.Name fx p1) X.env) :: starEach es X.env := by rfl) (hpl : (backTo pos (starEach es X.env)).any (·.1) = false := by rfl) :
    DEx X cv W (.Call (.Name x p) (.Name fx p1 :: es) [] pos) (dCallFV F δ) := by
  obtain ⟨g, fdd, ps, h1, h2, h3, h4⟩ := fd.ex
  have hf : PE X (.Name fx p1) (tC (.ref f)) := pe_glob hgf hmf rfl hdf
  refine PE_imp (pe_callS h1 hr hg h2 h3 h4 (fun σ => L2N.passAt (takesW0 (X := X)) σ) (pa_cons hf ha he) hdb he hpl) fun σ H Q ⟨e, G, ρ, rp, p⟩ => ?_
  refine ⟨e, G, ρ, rp, Post.bind p fun xs ρ1 G1 H1 rp1 ge1 p1 vs hvs => ?_⟩
  refine post_coerceAll rp1 hvs p1 fun ds ρ2 G3 rp3 ge3 rd p3 => ?_
  refine ⟨G3, e.T, vs, ds, rfl, rp3.le, rp3.nt, rp3.tabs, rd, ?_⟩
  cases q : F ds with
  | none => rw [q] at p3; exact p3.elim
  | some dv =>
    rw [q] at p3
    intro v H' G' ge' le' nt' new' bg tb res
    have rp4 := rp3.later ⟨ge', le', nt', new', bg, tb⟩
    exact p3 H' G' rp4 ge' v (res.vok rp3)
end
end DH
end

section
set_option Elab.async false
set_option linter.all false
set_option maxRecDepth 100000
set_option maxHeartbeats 400000
/-! DH10: the last rules; what the written part says of a def. -/
namespace DH
open PySem PySem.Spec PyProof.Rows HotX L2 L2H DL
variable [Tbl]
open LamX (TabB LamS lamEnv lamCx CodeO ExtN)
open NdefX (NTab TabN)
/-- the def x stands where the globals say -/
structure DefAt (K : PySem.W.Frag) (mg : Str → Option Value) (x : Str) (st : Stmt) (f : Addr) : Prop where
  fn : ∃ fd, Fun K x x st f fd
  gl : mg x = some (.ref f)
/-- .. and its code object is the one at c -/
structure DefC (K : PySem.W.Frag) (mg : Str → Option Value) (x : Str) (st : Stmt) (f c : Addr) : Prop where
  fn : ∃ fd, Fun K x x st f fd ∧ fd.code = .ref c
  gl : mg x = some (.ref f)
theorem room64 {k : Nat} {A : Around} (r : Room k A) : A.units + 64 < cLine := by have := r.un; omega
theorem room65 {k : Nat} {A : Around} (r : Room k A) : A.units + 65 < cLine := by have := r.un; omega
theorem room1 {k : Nat} {A : Around} (r : Room k A) : A.units + 1 < cLine := by have := r.un; omega
section
variable {X : Cx} {cv : Str → Value} {W : WX}
theorem de_err {x a e en nmx ret : Str} {st : Stmt} {g gN CS c P : Addr} {nm : Nat → Nat → Str} {j k kn : Nat} {params : Arguments} {body : Expr} {scope : Scope} {δ : DE} {nmc : Str → Option Str} {p lpos pos p1 p2 p3 p4 p5 p6 p7 p8 p9 p10 p11 p12 : Pos}
    (D : DefAt X.K X.mg x st g) (hnm : Told X.prog X.w X.K X.mg X.base kn gN CS cv nmc) (hme : X.mg e = some (.ref CS)) (hmn : X.mg nmx = some (.ref gN)) (hkn : PySem.W.keepIn X.K (.ref gN) = true) (hkk : kn ≤ k + 1) (hr : Room (k + 2) X.A) (TB : TabB X.base X.mg c P) (hcode : X.env.code = .ref c) (hmT : (P, nm) ∈ Tbl.T)
    (hu : ∀ p ∈ Tbl.T, p.1 = P → p.2 = nm) (hn : nm lpos.line lpos.col = X.env.qual ++ "<lambda>")
    (hbody : ∀ (A : Around) (outer : List Env) (s : Shared) (H : Hp) (E : XK) (f c' : Addr), Room k (A.deeper (lamEnv X scope s.heap.objs.size f c')) → DEx (lamCxN X A outer s H E scope f c') cv (fun cls d _ H => E cls d H) body δ)
    (hst : defBody st = [.Try [.Expr (.Call (.Name a p1) [] [] p2) p3] [.ExceptHandler (some (.Name e p4)) (some en) [.Return (some (.Call (.Name nmx p5) [.Name en p6] [] p7)) p8] p9] [] [] p10, .Return (some (.Constant (.str ret) j p11)) p12] := by rfl)
    (Sg : FnScope [a, en] [a] (defScope st) := by exact ⟨rfl, rfl, rfl, by decide +kernel, rfl, by decide +kernel, by decide +kernel⟩)
    (hb : ∀ (kV doc pm : Value) (an : Option Addr) (cdv ct : Value) (us : List Value), us.length = ([a] : List Str).length → bindArgs (PySem.W.fnOf x x (defArgs st) (defBody st) (defScope st) .none kV doc pm an cdv ct) ⟨us, []⟩ = pure ((([a] : List Str)).zip us) := by exact fun _ _ _ _ _ _ us hl => match us, hl with | [_], _ => rfl)
    (hge : (defScope st).names.lookup e = some .globalImplicit := by rfl) (hgn : (defScope st).names.lookup nmx = some .globalImplicit := by rfl) (hen : (defScope st).names.lookup en = some .local := by rfl) (hva : Vis (defScope st) a := by exact Or.inl rfl)
    (hde : (e == ("__debug__" : Str)) = false := by decide) (hdn : (nmx == ("__debug__" : Str)) = false := by decide) (hdl : (en == ("__debug__" : Str)) = false := by decide) (hcl : (en == ("__classdict__" : Str)) = false := by decide)
    (hg : Gl X x := by rfl) (L : LamS X.env.scope scope := by exact LamX.lamS_by (by first | rfl | decide +kernel)) (hdef : defaultsOf params X.env = ([], []) := by rfl) (hbind : ∀ (q : Str) (cl : List (Str × Addr)) (pm cv ctv : Value), bindArgs (PySem.W.kla_fn "<lambda>" q params body scope cl pm cv ctv) ⟨[], []⟩ = pure [] := by exact fun _ _ _ _ _ => rfl)
    (hdb : (x == ("__debug__" : Str)) = false := by decide) (hd : (a == ("__debug__" : Str)) = false := by decide) (hcd : (a == ("__classdict__" : Str)) = false := by decide) :
    DEx X cv W (.Call (.Name x p) [.Lambda params body scope lpos] [] pos) (dErr ret nmc δ) := by
  obtain ⟨fd, Fn⟩ := D.fn
  have kp := Fn.kp
  have bb := Fn.binds (ps := [a]) hb
  obtain ⟨oc, od, kV, doc, pm, an, cdv, ct, osl, rfl, lk, hcg⟩ := Fn.ex
  refine PE_imp (pe_lamN (T := Tbl.T) (TT := TTE X.prog X.w X.K X.mg X.base kn gN CS ret) (t := fun E => tD X.K cv (fun cls d _ H => E cls d H) δ) hg D.gl kp lk hcg bb Sg rfl hva ?_ TB hcode hmT hn hu hr L hdef hbind hbody hdb hd hcd) fun σ H Q h => err_read rfl hnm h
  rw [hst]
  exact error_gives hge hgn hen hme hmn hkn hde hdn hdl hcl Sg.nd rfl hkk
theorem de_told {x a e en nmx ret : Str} {st : Stmt} {g gN CS c P : Addr} {nm : Nat → Nat → Str} {j k kn kk1 kk2 jn : Nat} {params : Arguments} {body : Expr} {scope : Scope} {δ : DE} {nmc : Str → Option Str} {p lpos pos p1 p2 p3 p4 p5 p6 p7 p8 p9 p10 p11 p12 p13 p14 : Pos}
    (D : DefAt X.K X.mg x st g) (hnm : Told X.prog X.w X.K X.mg X.base kn gN CS cv nmc) (hme : X.mg e = some (.ref CS)) (hmn : X.mg nmx = some (.ref gN)) (hkn : PySem.W.keepIn X.K (.ref gN) = true) (hkk : kn ≤ k + 1) (hr : Room (k + 2) X.A) (TB : TabB X.base X.mg c P) (hcode : X.env.code = .ref c) (hmT : (P, nm) ∈ Tbl.T)
    (hu : ∀ p ∈ Tbl.T, p.1 = P → p.2 = nm) (hn : nm lpos.line lpos.col = X.env.qual ++ "<lambda>")
    (hbody : ∀ (A : Around) (outer : List Env) (s : Shared) (H : Hp) (E : XK) (f c' : Addr), Room k (A.deeper (lamEnv X scope s.heap.objs.size f c')) → DEx (lamCxN X A outer s H E scope f c') cv (fun cls d _ H => E cls d H) body δ)
    (hst : defBody st = [.Try [.Return (some (.Tuple [.Call (.Name a p1) [] [] p2, .Constant (.str ret) j p11] kk1 p12)) p3] [.ExceptHandler (some (.Name e p4)) (some en) [.Return (some (.Tuple [.Constant .none jn p13, .Call (.Name nmx p5) [.Name en p6] [] p7] kk2 p14)) p8] p9] [] [] p10] := by rfl)
    (Sg : FnScope [a, en] [a] (defScope st) := by exact ⟨rfl, rfl, rfl, by decide +kernel, rfl, by decide +kernel, by decide +kernel⟩)
    (hb : ∀ (kV doc pm : Value) (an : Option Addr) (cdv ct : Value) (us : List Value), us.length = ([a] : List Str).length → bindArgs (PySem.W.fnOf x x (defArgs st) (defBody st) (defScope st) .none kV doc pm an cdv ct) ⟨us, []⟩ = pure ((([a] : List Str)).zip us) := by exact fun _ _ _ _ _ _ us hl => match us, hl with | [_], _ => rfl)
    (hge : (defScope st).names.lookup e = some .globalImplicit := by rfl) (hgn : (defScope st).names.lookup nmx = some .globalImplicit := by rfl) (hen : (defScope st).names.lookup en = some .local := by rfl) (hva : Vis (defScope st) a := by exact Or.inl rfl)
    (hde : (e == ("__debug__" : Str)) = false := by decide) (hdn : (nmx == ("__debug__" : Str)) = false := by decide) (hdl : (en == ("__debug__" : Str)) = false := by decide) (hcl : (en == ("__classdict__" : Str)) = false := by decide)
    (hg : Gl X x := by rfl) (L : LamS X.env.scope scope := by exact LamX.lamS_by (by first | rfl | decide +kernel)) (hdef : defaultsOf params X.env = ([], []) := by rfl) (hbind : ∀ (q : Str) (cl : List (Str × Addr)) (pm cv ctv : Value), bindArgs (PySem.W.kla_fn "<lambda>" q params body scope cl pm cv ctv) ⟨[], []⟩ = pure [] := by exact fun _ _ _ _ _ => rfl)
    (hdb : (x == ("__debug__" : Str)) = false := by decide) (hd : (a == ("__debug__" : Str)) = false := by decide) (hcd : (a == ("__classdict__" : Str)) = false := by decide) :
    DEx X cv W (.Call (.Name x p) [.Lambda params body scope lpos] [] pos) (dTold ret nmc δ) := by
  obtain ⟨fd, Fn⟩ := D.fn
  have kp := Fn.kp
  have bb := Fn.binds (ps := [a]) hb
  obtain ⟨oc, od, kV, doc, pm, an, cdv, ct, osl, rfl, lk, hcg⟩ := Fn.ex
  refine PE_imp (pe_lamN (T := Tbl.T) (TT := TTT X.prog X.w X.K X.mg X.base kn gN CS ret) (t := fun E => tD X.K cv (fun cls d _ H => E cls d H) δ) hg D.gl kp lk hcg bb Sg rfl hva ?_ TB hcode hmT hn hu hr L hdef hbind hbody hdb hd hcd) fun σ H Q h => told_read rfl hnm h
  rw [hst]
  exact told_gives hge hgn hen hme hmn hkn hde hdn hdl hcl Sg.nd rfl hkk
end
/-- an own error class of the law, without an __init__ of its own -/
structure ErrAt (K : PySem.W.Frag) (mg : Str → Option Value) (cv : Str → Value) (x : Str) : Prop where
  ex : ∃ C, mg x = some (.ref C) ∧ cv x = .ref C ∧ PySem.W.keepIn K (.ref C) = true ∧ PySem.W.excIn K C [.type "ValueError", .type "Exception", .type "BaseException", .type "object"] "ValueError.__new__" = true ∧
    PySem.W.subIn K (.ref C) (.type "BaseException") = some true ∧ PySem.W.typeIn K (.ref C) = some (.type "type")
section
variable {X : Cx} {cv : Str → Value} {W : WX}
theorem ds_raiseE {x m : Str} {j : Nat} {p p2 pos pos2 : Pos} (h : ErrAt X.K X.mg cv x) (hc : X.calm = true) (tk : L2N.Takes X W) (hg : Gl X x := by rfl) (hdb : (x == ("__debug__" : Str)) = false := by decide) : DSx X cv W (.Raise (some (.Call (.Name x p) [.Constant (.str m) j p2] [] pos)) none pos2) (fun ρ => .exc x ρ) := by
  obtain ⟨C, h1, h2, h3, h4, h5, h6⟩ := h.ex
  exact ds_raise PySem.F.excBase_ValueError h4 h1 h3 (raises_own h5 h6) h2 hc tk hg hdb
end
end DH
end

section
set_option Elab.async false
set_option linter.all false
set_option maxRecDepth 100000
set_option maxHeartbeats 1000000
/-! W1: what holds behind a denotation: rules from left to right. -/
namespace DL
open PySem PySem.Spec DH
section
variable {α β : Type}
/-- the denotation ends well with Q, or raises with X -/
def Wp (r : R α) (Q : α → Rho → Prop) (X : Str → Rho → Prop) : Prop := match r with
  | .bad => False
  | .exc c ρ => X c ρ
  | .ok x ρ => Q x ρ
theorem Wp.mono {r : R α} {Q Q' : α → Rho → Prop} {X X' : Str → Rho → Prop} (h : Wp r Q X) (hq : ∀ x ρ, Q x ρ → Q' x ρ) (hx : ∀ c ρ, X c ρ → X' c ρ) : Wp r Q' X' := by
  cases r with
  | bad => exact h
  | exc c ρ => exact hx c ρ h
  | ok x ρ => exact hq x ρ h
theorem Wp.bind {r : R α} {k : α → Rho → R β} {Q : β → Rho → Prop} {X : Str → Rho → Prop} (h : Wp r (fun x ρ => Wp (k x ρ) Q X) X) : Wp (r.bind k) Q X := by
  cases r <;> exact h
theorem Wp.eq {r : R α} {x : α} {ρ : Rho} (h : r = .ok x ρ) {Q : α → Rho → Prop} {X : Str → Rho → Prop} (q : Q x ρ) : Wp r Q X := by subst h; exact q
theorem Wp.get {r : R α} {Q : α → Rho → Prop} (h : Wp r Q fun _ _ => False) : ∃ x ρ, r = .ok x ρ ∧ Q x ρ := by
  cases r with
  | bad => exact h.elim
  | exc c ρ => exact h.elim
  | ok x ρ => exact ⟨x, ρ, rfl, h⟩
end
variable {Q : DV → Rho → Prop} {QB : Bool → Rho → Prop} {QA : List DV → Rho → Prop} {QS : SO → Rho → Prop} {X : Str → Rho → Prop} {ρ : Rho}
/-! ### expressions -/
theorem wp_C {d : PyData} (h : Q (.sh d) ρ) : Wp (dC d ρ) Q X := h
theorem wp_V {i : Nat} {x : DV} (h : dV i ρ = .ok x ρ) (q : Q x ρ) : Wp (dV i ρ) Q X := Wp.eq h q
def W2 (g : PyData → PyData → Option DV) (x y : DV) (ρ : Rho) (Q : DV → Rho → Prop) : Prop := ∃ a b c, peek ρ x = some a ∧ peek ρ y = some b ∧ g a b = some c ∧ Q c ρ
theorem w2 {g : PyData → PyData → Option DV} {x y : DV} {a b : PyData} {c : DV} (h1 : peek ρ x = some a) (h2 : peek ρ y = some b) (h3 : g a b = some c) (q : Q c ρ) : W2 g x y ρ Q := ⟨a, b, c, h1, h2, h3, q⟩
theorem wp_bin {g : PyData → PyData → Option DV} {δa δb : DE} (h : Wp (δa ρ) (fun x ρ1 => Wp (δb ρ1) (fun y ρ2 => W2 g (keep x) y ρ2 Q) X) X) : Wp (dBin g δa δb ρ) Q X := by
  refine Wp.bind (h.mono (fun x ρ1 h => Wp.bind (h.mono (fun y ρ2 ⟨a, b, c, h1, h2, h3, q⟩ => ?_) fun _ _ z => z)) fun _ _ z => z)
  rw [h1, h2]
  show Wp (ofO (g a b) ρ2) Q X
  rw [h3]
  exact q
def W1T (x : DV) (ρ : Rho) (Q : Bool → Rho → Prop) : Prop := ∃ b, peek ρ x = some (.bool b) ∧ Q b ρ
theorem w1T {x : DV} {b : Bool} (h : peek ρ x = some (.bool b)) (q : QB b ρ) : W1T x ρ QB := ⟨b, h, q⟩
theorem wp_test {δ : DE} (h : Wp (δ ρ) (fun x ρ1 => W1T x ρ1 QB) X) : Wp (dTest δ ρ) QB X := by
  refine Wp.bind (h.mono (fun x ρ1 ⟨b, h, q⟩ => ?_) fun _ _ z => z)
  rw [h]; exact q
theorem wp_notT {δ : DB} (h : Wp (δ ρ) (fun b ρ1 => QB (!b) ρ1) X) : Wp (dNotT δ ρ) QB X := Wp.bind h
theorem wp_andT {δ ε : DB} (h : Wp (δ ρ) (fun b ρ1 => (b = true → Wp (ε ρ1) QB X) ∧ (b = false → QB false ρ1)) X) : Wp (dAndT δ ε ρ) QB X := by
  refine Wp.bind (h.mono (fun b ρ1 h => ?_) fun _ _ z => z)
  cases b
  · exact h.2 rfl
  · exact h.1 rfl
theorem wp_orT {δ ε : DB} (h : Wp (δ ρ) (fun b ρ1 => (b = false → Wp (ε ρ1) QB X) ∧ (b = true → QB true ρ1)) X) : Wp (dOrT δ ε ρ) QB X := by
  refine Wp.bind (h.mono (fun b ρ1 h => ?_) fun _ _ z => z)
  cases b
  · exact h.1 rfl
  · exact h.2 rfl
theorem wp_notV {δ : DE} (h : Wp (dTest δ ρ) (fun b ρ1 => Q (.sh (.bool (!b))) ρ1) X) : Wp (dNotV δ ρ) Q X := Wp.bind h
theorem wp_andV {δ ε : DE} (h : Wp (dTest δ ρ) (fun b ρ1 => (b = true → Wp (ε ρ1) Q X) ∧ (b = false → Q (.sh (.bool false)) ρ1)) X) : Wp (dAndV δ ε ρ) Q X := by
  refine Wp.bind (h.mono (fun b ρ1 h => ?_) fun _ _ z => z)
  cases b
  · exact h.2 rfl
  · exact h.1 rfl
theorem wp_orV {δ ε : DE} (h : Wp (dTest δ ρ) (fun b ρ1 => (b = false → Wp (ε ρ1) Q X) ∧ (b = true → Q (.sh (.bool true)) ρ1)) X) : Wp (dOrV δ ε ρ) Q X := by
  refine Wp.bind (h.mono (fun b ρ1 h => ?_) fun _ _ z => z)
  cases b
  · exact h.1 rfl
  · exact h.2 rfl
theorem wp_if {c : DB} {δ ε : DE} (h : Wp (c ρ) (fun b ρ1 => (b = true → Wp (δ ρ1) Q X) ∧ (b = false → Wp (ε ρ1) Q X)) X) : Wp (dIf c δ ε ρ) Q X := by
  refine Wp.bind (h.mono (fun b ρ1 h => ?_) fun _ _ z => z)
  cases b
  · exact h.2 rfl
  · exact h.1 rfl
theorem wp_nil (q : QA [] ρ) : Wp (dNil ρ) QA X := q
theorem wp_cons {δ : DE} {ε : DA} (h : Wp (δ ρ) (fun x ρ1 => Wp (ε ρ1) (fun xs ρ2 => QA (keep x :: xs) ρ2) X) X) : Wp (dCons δ ε ρ) QA X :=
  Wp.bind (h.mono (fun x ρ1 h => Wp.bind h) fun _ _ z => z)
/-- all of some values as data -/
def WC (xs : List DV) (ρ : Rho) (k : List PyData → Rho → Prop) : Prop := ∃ ds ρ', coerceAll xs ρ = .ok ds ρ' ∧ k ds ρ'
theorem wC {xs : List DV} {ds : List PyData} {ρ' : Rho} {k : List PyData → Rho → Prop} (h : coerceAll xs ρ = .ok ds ρ') (q : k ds ρ') : WC xs ρ k := ⟨ds, ρ', h, q⟩
theorem WC.wp {α : Type} {xs : List DV} {f : List PyData → Rho → R α} {Qx : α → Rho → Prop} (h : WC xs ρ fun ds ρ' => Wp (f ds ρ') Qx X) : Wp ((coerceAll xs ρ).bind f) Qx X := by
  obtain ⟨ds, ρ', h, q⟩ := h
  rw [h]; exact q
def WLe (ds : List PyData) (P : Prop) : Prop := ds.length ≤ 64 ∧ P
theorem wLe {ds : List PyData} {P : Prop} (h : ds.length ≤ 64) (p : P) : WLe ds P := ⟨h, p⟩
theorem wp_tup {δ : DA} (h : Wp (δ ρ) (fun xs ρ1 => WC xs ρ1 fun ds ρ2 => WLe ds (Q (.sh (.tuple ds)) ρ2)) X) : Wp (dTup δ ρ) Q X :=
  Wp.bind (h.mono (fun xs ρ1 ⟨ds, ρ2, e, l, q⟩ => WC.wp ⟨ds, ρ2, e, by dsimp only; rw [if_pos l]; exact q⟩) fun _ _ z => z)
theorem wp_lst {δ : DA} (h : Wp (δ ρ) (fun xs ρ1 => WC xs ρ1 fun ds ρ2 => WLe ds (Q (.ow (.lst ds)) ρ2)) X) : Wp (dLst δ ρ) Q X :=
  Wp.bind (h.mono (fun xs ρ1 ⟨ds, ρ2, e, l, q⟩ => WC.wp ⟨ds, ρ2, e, by dsimp only; rw [if_pos l]; exact q⟩) fun _ _ z => z)
def WB (g : List PyData → Option DV) (xs : List DV) (ρ : Rho) (Q : DV → Rho → Prop) : Prop := ∃ ds c, peekAll ρ xs = some ds ∧ g ds = some c ∧ Q c ρ
theorem wB {g : List PyData → Option DV} {xs : List DV} {ds : List PyData} {c : DV} (h1 : peekAll ρ xs = some ds) (h2 : g ds = some c) (q : Q c ρ) : WB g xs ρ Q := ⟨ds, c, h1, h2, q⟩
theorem wp_B {g : List PyData → Option DV} {δ : DA} (h : Wp (δ ρ) (fun xs ρ1 => WB g xs ρ1 Q) X) : Wp (dB g δ ρ) Q X := by
  refine Wp.bind (h.mono (fun xs ρ1 ⟨ds, c, h1, h2, q⟩ => ?_) fun _ _ z => z)
  rw [h1]
  show Wp (ofO (g ds) ρ1) Q X
  rw [h2]
  exact q
def WM (g : PyData → PyData → Option DV) (z : Str) (y : DV) (ρ : Rho) (Q : DV → Rho → Prop) : Prop := ∃ b c, peek ρ y = some b ∧ g (.str z) b = some c ∧ Q c ρ
theorem wM {g : PyData → PyData → Option DV} {z : Str} {y : DV} {b : PyData} {c : DV} (h1 : peek ρ y = some b) (h2 : g (.str z) b = some c) (q : Q c ρ) : WM g z y ρ Q := ⟨b, c, h1, h2, q⟩
def WSt (x : DV) (ρ : Rho) (k : Str → Prop) : Prop := ∃ z, peek ρ x = some (.str z) ∧ k z
theorem wSt {x : DV} {z : Str} {k : Str → Prop} (h : peek ρ x = some (.str z)) (q : k z) : WSt x ρ k := ⟨z, h, q⟩
theorem wp_M1 {g : PyData → PyData → Option DV} {δ ε : DE} (h : Wp (δ ρ) (fun x ρ1 => WSt (keep x) ρ1 fun z => Wp (ε ρ1) (fun y ρ2 => WM g z y ρ2 Q) X) X) : Wp (dM1 g δ ε ρ) Q X := by
  unfold dM1
  refine Wp.bind (h.mono (fun x ρ1 ⟨z, h1, h3⟩ => ?_) fun _ _ z => z)
  rw [h1]
  refine Wp.bind (h3.mono (fun y ρ2 ⟨b, c, e1, e2, q⟩ => ?_) fun _ _ z => z)
  rw [e1]
  show Wp (ofO (g (.str z) b) ρ2) Q X
  rw [e2]
  exact q
/-- a call of a def that gives a value -/
def WF (F : List PyData → Option FR) (xs : List DV) (ρ : Rho) (Q : DV → Rho → Prop) (X : Str → Rho → Prop) : Prop := ∃ ds r, peekAll ρ xs = some ds ∧ F ds = some r ∧ match r with
  | .exc c => X c ρ
  | .ok dv => if plainR dv = true then Q dv ρ else WC xs ρ fun _ ρ' => Q dv ρ'
theorem wp_call {F : List PyData → Option FR} {δ : DA} (h : Wp (δ ρ) (fun xs ρ1 => WF F xs ρ1 Q X) X) : Wp (dCall F δ ρ) Q X := by
  refine Wp.bind (h.mono (fun xs ρ1 ⟨ds, r, h1, h2, q⟩ => ?_) fun _ _ z => z)
  unfold callR
  rw [h1]
  dsimp only
  rw [h2]
  cases r with
  | exc c => exact q
  | ok dv =>
    dsimp only at q ⊢
    by_cases p : plainR dv = true
    · rw [if_pos p] at q ⊢; exact q
    · rw [if_neg p] at q ⊢
      obtain ⟨ds', ρ', e, q⟩ := q
      rw [e]; exact q

/-! ### slices -/
def WP0 (x : DV) (l u : Option Int) (ρ : Rho) (Q : DV → Rho → Prop) : Prop := ∃ a c, peek ρ x = some a ∧ slP a l u = some c ∧ Q c ρ
theorem wP0 {x : DV} {l u : Option Int} {a : PyData} {c : DV} (h1 : peek ρ x = some a) (h2 : slP a l u = some c) (q : Q c ρ) : WP0 x l u ρ Q := ⟨a, c, h1, h2, q⟩
theorem wp_sl {δ : DE} {lo hi : DP} (h : Wp (δ ρ) (fun x ρ1 => Wp (lo ρ1) (fun l ρ2 => Wp (hi ρ2) (fun u ρ3 => WP0 (keep x) l u ρ3 Q) X) X) X) : Wp (dSl δ lo hi ρ) Q X := by
  unfold dSl
  refine Wp.bind (h.mono (fun x ρ1 h => Wp.bind (h.mono (fun l ρ2 h => Wp.bind (h.mono (fun u ρ3 ⟨a, c, h1, h2, q⟩ => ?_) fun _ _ z => z)) fun _ _ z => z)) fun _ _ z => z)
  rw [h1]
  show Wp (ofO (slP a l u) ρ3) Q X
  rw [h2]
  exact q
theorem wp_pNone {QP : Option Int → Rho → Prop} (q : QP none ρ) : Wp (pNone ρ) QP X := q
def WI (x : DV) (ρ : Rho) (k : Int → Prop) : Prop := ∃ i, peek ρ x = some (.int i) ∧ k i
theorem wI {x : DV} {i : Int} {k : Int → Prop} (h : peek ρ x = some (.int i)) (q : k i) : WI x ρ k := ⟨i, h, q⟩
theorem wp_pSome {δ : DE} {QP : Option Int → Rho → Prop} (h : Wp (δ ρ) (fun x ρ1 => WI x ρ1 fun i => QP (some i) ρ1) X) : Wp (pSome δ ρ) QP X := by
  unfold pSome
  refine Wp.bind (h.mono (fun x ρ1 ⟨i, h1, q⟩ => ?_) fun _ _ z => z)
  rw [h1]; exact q
/-! ### a slot's list is changed -/
def WMu (m : List PyData → List PyData → Option (List PyData × PyData)) (i : Nat) (ds : List PyData) (ρ : Rho) (Q : DV → Rho → Prop) : Prop := ∃ c c' d, lstAt ρ i = some c ∧ m c ds = some (c', d) ∧ Q (.sh d) (putL ρ i c')
theorem wMu {m : List PyData → List PyData → Option (List PyData × PyData)} {i : Nat} {ds c c' : List PyData} {d : PyData} (h1 : lstAt ρ i = some c) (h2 : m c ds = some (c', d)) (q : Q (.sh d) (putL ρ i c')) : WMu m i ds ρ Q := ⟨c, c', d, h1, h2, q⟩
theorem wp_mut {i : Nat} {δ : DA} {m : List PyData → List PyData → Option (List PyData × PyData)} {c0 : List PyData} (h0 : lstAt ρ i = some c0) (h : Wp (δ ρ) (fun xs ρ1 => WC xs ρ1 fun ds ρ2 => WMu m i ds ρ2 Q) X) : Wp (dMut i δ m ρ) Q X := by
  unfold dMut
  rw [h0]
  refine Wp.bind (h.mono (fun xs ρ1 ⟨ds, ρ2, e, c, c', d, h1, h2, q⟩ => WC.wp ⟨ds, ρ2, e, ?_⟩) fun _ _ z => z)
  dsimp only
  rw [h1]
  dsimp only
  rw [h2]
  exact q
/-! ### a def that changes a slot's list -/
def WFM (F : List PyData → List PyData → Option (List PyData × DV)) (i : Nat) (ds : List PyData) (ρ : Rho) (Q : DV → Rho → Prop) : Prop := ∃ c c' dv, lstAt ρ i = some c ∧ F c ds = some (c', dv) ∧ Q dv (putL ρ i c')
theorem wFM {F : List PyData → List PyData → Option (List PyData × DV)} {i : Nat} {ds c c' : List PyData} {dv : DV} (h1 : lstAt ρ i = some c) (h2 : F c ds = some (c', dv)) (q : Q dv (putL ρ i c')) : WFM F i ds ρ Q := ⟨c, c', dv, h1, h2, q⟩
theorem wp_callM {i : Nat} {δ : DA} {F : List PyData → List PyData → Option (List PyData × DV)} {c0 : List PyData} (h0 : lstAt ρ i = some c0) (h : Wp (δ ρ) (fun xs ρ1 => WC xs ρ1 fun ds ρ2 => WFM F i ds ρ2 Q) X) : Wp (dCallM F i δ ρ) Q X := by
  unfold dCallM
  rw [h0]
  refine Wp.bind (h.mono (fun xs ρ1 ⟨ds, ρ2, e, c, c', d, h1, h2, q⟩ => WC.wp ⟨ds, ρ2, e, ?_⟩) fun _ _ z => z)
  dsimp only
  rw [h1]
  dsimp only
  rw [h2]
  exact q
theorem wp_callV {i : Nat} {f : Addr} {F : List PyData → Option FR} {δ : DA} (h0 : ρ[i]? = some (some (.op f))) (h : Wp (δ ρ) (fun xs ρ1 => WF F xs ρ1 Q X) X) : Wp (dCallV i f F δ ρ) Q X := by
  unfold dCallV
  rw [h0]
  dsimp only
  rw [if_pos rfl]
  exact wp_call h
def WFV (F : List PyData → Option DV) (ds : List PyData) (ρ : Rho) (Q : DV → Rho → Prop) : Prop := ∃ dv, F ds = some dv ∧ Q dv ρ
theorem wFV {F : List PyData → Option DV} {ds : List PyData} {dv : DV} (h : F ds = some dv) (q : Q dv ρ) : WFV F ds ρ Q := ⟨dv, h, q⟩
theorem wp_callFV {F : List PyData → Option DV} {δ : DA} (h : Wp (δ ρ) (fun xs ρ1 => WC xs ρ1 fun ds ρ2 => WFV F ds ρ2 Q) X) : Wp (dCallFV F δ ρ) Q X := by
  unfold dCallFV
  refine Wp.bind (h.mono (fun xs ρ1 ⟨ds, ρ2, e, dv, h1, q⟩ => WC.wp ⟨ds, ρ2, e, ?_⟩) fun _ _ z => z)
  dsimp only
  rw [h1]
  exact q
theorem WF.ok {F : List PyData → Option FR} {xs : List DV} {ds : List PyData} {dv : DV} (h1 : peekAll ρ xs = some ds) (h2 : F ds = some (.ok dv)) (hp : plainR dv = true) (q : Q dv ρ) : WF F xs ρ Q X := ⟨ds, _, h1, h2, by
  dsimp only
  rw [if_pos hp]; exact q⟩
theorem WF.okC {F : List PyData → Option FR} {xs : List DV} {ds : List PyData} {dv : DV} (h1 : peekAll ρ xs = some ds) (h2 : F ds = some (.ok dv)) (q : WC xs ρ fun _ ρ' => Q dv ρ') (q2 : Q dv ρ) : WF F xs ρ Q X := ⟨ds, _, h1, h2, by
  dsimp only
  by_cases hp : plainR dv = true
  · rw [if_pos hp]; exact q2
  · rw [if_neg hp]; exact q⟩
theorem WF.exc {F : List PyData → Option FR} {xs : List DV} {ds : List PyData} {c : Str} (h1 : peekAll ρ xs = some ds) (h2 : F ds = some (.exc c)) (q : X c ρ) : WF F xs ρ Q X := ⟨ds, _, h1, h2, q⟩
/-! ### errors told -/
theorem wp_err {ret : Str} {nmc : Str → Option Str} {δ : DE} (h : Wp (δ ρ) (fun _ ρ1 => Q (.sh (.str ret)) ρ1) (fun c ρ1 => ∃ z, nmc c = some z ∧ Q (.sh (.str z)) ρ1)) : Wp (dErr ret nmc δ ρ) Q X := by
  unfold dErr
  cases e : δ ρ with
  | bad => rw [e] at h; exact h.elim
  | ok x ρ1 => rw [e] at h; exact h
  | exc c ρ1 =>
    rw [e] at h
    obtain ⟨z, hz, q⟩ := h
    dsimp only
    rw [hz]
    exact q
def WOn (ds : List PyData) (k : PyData → Prop) : Prop := ∃ d, ds = [d] ∧ k d
theorem wOn {ds : List PyData} {d : PyData} {k : PyData → Prop} (h : ds = [d]) (q : k d) : WOn ds k := ⟨d, h, q⟩
theorem wp_told {ret : Str} {nmc : Str → Option Str} {δ : DE} (h : Wp (δ ρ) (fun x ρ1 => WC [x] ρ1 fun ds ρ2 => WOn ds fun d => Q (.sh (.tuple [d, .str ret])) ρ2) (fun c ρ1 => ∃ z, nmc c = some z ∧ Q (.sh (.tuple [.none, .str z])) ρ1)) : Wp (dTold ret nmc δ ρ) Q X := by
  unfold dTold
  cases e : δ ρ with
  | bad => rw [e] at h; exact h.elim
  | exc c ρ1 =>
    rw [e] at h
    obtain ⟨z, hz, q⟩ := h
    dsimp only
    rw [hz]
    exact q
  | ok x ρ1 =>
    rw [e] at h
    obtain ⟨ds, ρ2, h1, d, rfl, q⟩ := h
    dsimp only
    unfold coerceAll at h1
    cases h2 : coerce x ρ1 with
    | bad => rw [h2] at h1; cases h1
    | exc c r => rw [h2] at h1; cases h1
    | ok d' ρ' =>
      rw [h2, R.bind_ok] at h1
      unfold coerceAll at h1
      cases h1
      exact q
/-! ### statements -/
theorem ws_next (q : QS .nx ρ) : Wp (dNext ρ) QS X := q
def SeqK (b : DS) (QS : SO → Rho → Prop) (X : Str → Rho → Prop) (o : SO) (ρ1 : Rho) : Prop := match o with
  | .nx => Wp (b ρ1) QS X
  | o => QS o ρ1
theorem seqK_nx {b : DS} (h : Wp (b ρ) QS X) : SeqK b QS X .nx ρ := h
theorem seqK_rt {b : DS} {dv : DV} (h : QS (.rt dv) ρ) : SeqK b QS X (.rt dv) ρ := h
theorem seqK_bk {b : DS} (h : QS .bk ρ) : SeqK b QS X .bk ρ := h
theorem seqK_ct {b : DS} (h : QS .ct ρ) : SeqK b QS X .ct ρ := h
theorem ws_seq {a b : DS} (h : Wp (a ρ) (SeqK b QS X) X) : Wp (dSeq a b ρ) QS X := by
  refine Wp.bind (h.mono (fun o ρ1 q => ?_) fun _ _ z => z)
  cases o <;> exact q
theorem ws_if {c : DB} {a b : DS} (h : Wp (c ρ) (fun t ρ1 => (t = true → Wp (a ρ1) QS X) ∧ (t = false → Wp (b ρ1) QS X)) X) : Wp (dIfS c a b ρ) QS X := by
  refine Wp.bind (h.mono (fun b ρ1 h => ?_) fun _ _ z => z)
  cases b
  · exact h.2 rfl
  · exact h.1 rfl
theorem ws_expr {δ : DE} (h : Wp (δ ρ) (fun _ ρ1 => QS .nx ρ1) X) : Wp (dExpr δ ρ) QS X := Wp.bind h
def WR (x : DV) (ρ : Rho) (Q : SO → Rho → Prop) : Prop := match x with
  | .sh d => Q (.rt (.sh d)) ρ
  | .ow c => Q (.rt (.ow c)) ρ
  | .bw i => match ρ[i]? with
    | some (some (.sh d)) => Q (.rt (.sh d)) ρ
    | some (some (.ow c)) => Q (.rt (.ow c)) (ρ.set i none)
    | _ => False
  | _ => False
theorem ws_ret {δ : DE} (h : Wp (δ ρ) (fun x ρ1 => WR x ρ1 QS) X) : Wp (dRet δ ρ) QS X := by
  refine Wp.bind (h.mono (fun x ρ1 h => ?_) fun _ _ z => z)
  cases x with
  | sh d => exact h
  | ow c => exact h
  | mu c => exact h.elim
  | op a => exact h.elim
  | bw i =>
    unfold WR at h
    dsimp only at h ⊢
    split <;> split at h <;> simp_all [Wp]
theorem wr_sh {d : PyData} (q : QS (.rt (.sh d)) ρ) : WR (.sh d) ρ QS := q
theorem wr_ow {c : OC} (q : QS (.rt (.ow c)) ρ) : WR (.ow c) ρ QS := q
theorem wr_bwS {i : Nat} {d : PyData} (h : ρ[i]? = some (some (.sh d))) (q : QS (.rt (.sh d)) ρ) : WR (.bw i) ρ QS := by unfold WR; dsimp only; rw [h]; exact q
theorem wr_bwO {i : Nat} {c : OC} (h : ρ[i]? = some (some (.ow c))) (q : QS (.rt (.ow c)) (ρ.set i none)) : WR (.bw i) ρ QS := by unfold WR; dsimp only; rw [h]; exact q
def WPut (i : Nat) (x : DV) (ρ : Rho) (Q : SO → Rho → Prop) : Prop := Wp (putV i x ρ) Q fun _ _ => False
theorem ws_set {i : Nat} {δ : DE} (h : Wp (δ ρ) (fun x ρ1 => WPut i x ρ1 QS) X) : Wp (dSet i δ ρ) QS X := Wp.bind (h.mono (fun x ρ1 h => h.mono (fun _ _ z => z) fun _ _ z => z.elim) fun _ _ z => z)
theorem wput_sh {i : Nat} {d : PyData} (hi : i < ρ.length) (q : QS .nx (ρ.set i (some (.sh d)))) : WPut i (.sh d) ρ QS := by unfold WPut putV; rw [if_pos hi]; exact q
theorem wput_ow {i : Nat} {c : OC} (hi : i < ρ.length) (q : QS .nx (ρ.set i (some (.ow c)))) : WPut i (.ow c) ρ QS := by unfold WPut putV; rw [if_pos hi]; exact q
theorem wput_bw {i j : Nat} {d : PyData} {ρ1 : Rho} (hi : i < ρ.length) (h : coerce (.bw j) ρ = .ok d ρ1) (q : QS .nx (ρ1.set i (some (.sh d)))) : WPut i (.bw j) ρ QS := by
  unfold WPut putV; rw [if_pos hi]
  dsimp only
  rw [h]; exact q
theorem ws_raise {c : Str} (h : X c ρ) : Wp ((fun ρ => .exc c ρ : DS) ρ) QS X := h
theorem ws_for {ι : DI} {γ : DG} {b : DS} (h : Wp (ι ρ) (fun ds ρ1 => Wp (forD γ b ds ρ1) QS X) X) : Wp (dFor ι γ b ρ) QS X := Wp.bind h
def WLi (ds : List PyData) (k : List PyData → Prop) : Prop := ∃ es, ds = [.list es] ∧ k es
theorem wLi {ds es : List PyData} {k : List PyData → Prop} (h : ds = [.list es]) (q : k es) : WLi ds k := ⟨es, h, q⟩
def WTu (ds : List PyData) (k : List PyData → Prop) : Prop := ∃ es, ds = [.tuple es] ∧ k es
theorem wTu {ds es : List PyData} {k : List PyData → Prop} (h : ds = [.tuple es]) (q : k es) : WTu ds k := ⟨es, h, q⟩
def WRg (j : Int) (P : Prop) : Prop := (-(2 ^ 62) ≤ j ∧ j < 2 ^ 62) ∧ P
theorem wRg {j : Int} {P : Prop} (h : -1000000000 ≤ j ∧ j < 1000000000) (p : P) : WRg j P := ⟨by omega, p⟩
theorem wi_seq {δ : DE} {QI : List PyData → Rho → Prop} (h : Wp (δ ρ) (fun x ρ1 => WC [x] ρ1 fun ds ρ2 => WLi ds fun es => QI es ρ2) X) : Wp (iSeq δ ρ) QI X := by
  refine Wp.bind (h.mono (fun x ρ1 ⟨ds, ρ2, h1, es, e, q⟩ => ?_) fun _ _ z => z)
  subst e
  unfold coerceAll at h1
  cases h2 : coerce x ρ1 with
  | bad => rw [h2] at h1; cases h1
  | exc c r => rw [h2] at h1; cases h1
  | ok d' ρ' =>
    rw [h2, R.bind_ok] at h1
    unfold coerceAll at h1
    cases h1
    exact q
theorem wi_tup {δ : DE} {QI : List PyData → Rho → Prop} (h : Wp (δ ρ) (fun x ρ1 => WC [x] ρ1 fun ds ρ2 => WTu ds fun es => QI es ρ2) X) : Wp (iTupD δ ρ) QI X := by
  refine Wp.bind (h.mono (fun x ρ1 ⟨ds, ρ2, h1, es, e, q⟩ => ?_) fun _ _ z => z)
  subst e
  unfold coerceAll at h1
  cases h2 : coerce x ρ1 with
  | bad => rw [h2] at h1; cases h1
  | exc c r => rw [h2] at h1; cases h1
  | ok d' ρ' =>
    rw [h2, R.bind_ok] at h1
    unfold coerceAll at h1
    cases h1
    exact q
theorem wi_str {δ : DE} {QI : List PyData → Rho → Prop} (h : Wp (δ ρ) (fun x ρ1 => WSt x ρ1 fun z => QI (signs z) ρ1) X) : Wp (iStrD δ ρ) QI X := by
  refine Wp.bind (h.mono (fun x ρ1 ⟨z, h1, q⟩ => ?_) fun _ _ z => z)
  rw [h1]; exact q
theorem wi_range2 {δ ε : DE} {QI : List PyData → Rho → Prop} (h : Wp (δ ρ) (fun x ρ1 => Wp (ε ρ1) (fun y ρ2 => WI (keep x) ρ2 fun i => WI y ρ2 fun j => WRg i (WRg j (QI (rangeL i (j - i).toNat) ρ2))) X) X) : Wp (iRange2 δ ε ρ) QI X := by
  unfold iRange2
  refine Wp.bind (h.mono (fun x ρ1 h => Wp.bind (h.mono (fun y ρ2 ⟨i, h1, j, h2, b1, b2, q⟩ => ?_) fun _ _ z => z)) fun _ _ z => z)
  rw [h1, h2]
  dsimp only
  rw [if_pos ⟨b1.1, b1.2, b2.1, b2.2⟩]
  exact q
theorem wi_range1 {δ : DE} {QI : List PyData → Rho → Prop} (h : Wp (δ ρ) (fun x ρ1 => WI x ρ1 fun j => WRg j (QI (rangeL 0 j.toNat) ρ1)) X) : Wp (iRange1 δ ρ) QI X := by
  refine Wp.bind (h.mono (fun x ρ1 ⟨z, h1, b, q⟩ => ?_) fun _ _ z => z)
  rw [h1]
  dsimp only
  rw [if_pos b]; exact q
/-! ### loops -/
theorem for_inv {α : Type} {enc : α → PyData} {γ : DG} {b : DS} (Inv : List α → List α → Rho → Prop) {l : List α} (h0 : Inv [] l ρ)
    (step : ∀ pre a post ρ, pre ++ a :: post = l → Inv pre (a :: post) ρ → ∃ ρ1, γ (enc a) ρ = .ok .nx ρ1 ∧ Wp (b ρ1) (fun o ρ2 => match o with
      | .nx => Inv (pre ++ [a]) post ρ2
      | .ct => Inv (pre ++ [a]) post ρ2
      | .bk => QS .nx ρ2
      | .rt dv => QS (.rt dv) ρ2) X)
    (fin : ∀ ρ, Inv l [] ρ → QS .nx ρ) : Wp (forD γ b (l.map enc) ρ) QS X := by
  have key : ∀ (post pre : List α) (ρ : Rho), pre ++ post = l → Inv pre post ρ → Wp (forD γ b (post.map enc) ρ) QS X := by
    intro post
    induction post with
    | nil =>
      intro pre ρ e h
      rw [List.append_nil] at e; subst e
      exact fin ρ h
    | cons a post ih =>
      intro pre ρ e h
      obtain ⟨ρ1, e1, h1⟩ := step pre a post ρ e h
      show Wp (match γ (enc a) ρ with
        | .ok .nx ρ1 => (b ρ1).bind fun o ρ2 => match o with
          | .nx => forD γ b (post.map enc) ρ2
          | .ct => forD γ b (post.map enc) ρ2
          | .bk => .ok .nx ρ2
          | .rt dv => .ok (.rt dv) ρ2
        | _ => .bad) QS X
      rw [e1]
      refine Wp.bind (h1.mono (fun o ρ2 q => ?_) fun _ _ z => z)
      cases o with
      | nx => exact ih (pre ++ [a]) ρ2 (by rw [← e]; simp) q
      | ct => exact ih (pre ++ [a]) ρ2 (by rw [← e]; simp) q
      | bk => exact q
      | rt dv => exact q
  exact key l [] ρ rfl h0
/-! ### two at once; targets -/
def WFl (x : DV) (P : Prop) : Prop := flies x = true ∧ P
theorem wFl {x : DV} {P : Prop} (h : flies x = true) (p : P) : WFl x P := ⟨h, p⟩
def WL2 (i j : Nat) (ρ : Rho) (P : Prop) : Prop := (i < ρ.length ∧ j < ρ.length) ∧ P
theorem wL2 {i j : Nat} {P : Prop} (h1 : i < ρ.length) (h2 : j < ρ.length) (p : P) : WL2 i j ρ P := ⟨⟨h1, h2⟩, p⟩
theorem ws_par2 {i j : Nat} {δ ε : DE} (h : Wp (δ ρ) (fun x ρ1 => WFl x (Wp (ε ρ1) (fun y ρ2 => WFl y (WL2 i j ρ2 (QS .nx ((ρ2.set i (some x)).set j (some y))))) X)) X) : Wp (dPar2 i j δ ε ρ) QS X := by
  unfold dPar2
  refine Wp.bind (h.mono (fun x ρ1 ⟨f, h⟩ => ?_) fun _ _ z => z)
  rw [if_pos f]
  refine Wp.bind (h.mono (fun y ρ2 ⟨f2, l, q⟩ => ?_) fun _ _ z => z)
  rw [if_pos ⟨f2, l⟩]
  exact q
theorem ws_par3 {i j l : Nat} {δ ε ζ : DE} (h : Wp (δ ρ) (fun x ρ1 => WFl x (Wp (ε ρ1) (fun y ρ2 => WFl y (Wp (ζ ρ2) (fun z ρ3 => WFl z (WL2 i j ρ3 (WL2 l l ρ3 (QS .nx (((ρ3.set i (some x)).set j (some y)).set l (some z)))))) X)) X)) X) : Wp (dPar3 i j l δ ε ζ ρ) QS X := by
  unfold dPar3
  refine Wp.bind (h.mono (fun x ρ1 ⟨f, h⟩ => ?_) fun _ _ z => z)
  rw [if_pos f]
  refine Wp.bind (h.mono (fun y ρ2 ⟨f2, h⟩ => ?_) fun _ _ z => z)
  rw [if_pos f2]
  refine Wp.bind (h.mono (fun z ρ3 ⟨f3, l1, l2, q⟩ => ?_) fun _ _ z => z)
  rw [if_pos ⟨f3, l1.1, l1.2, l2.1⟩]
  exact q
def WG (γ : DG) (ds : List PyData) (ρ : Rho) (QS : SO → Rho → Prop) : Prop := ∃ d ρ1, ds = [d] ∧ γ d ρ = .ok .nx ρ1 ∧ QS .nx ρ1
theorem wG {γ : DG} {d : PyData} {ρ1 : Rho} (h : γ d ρ = .ok .nx ρ1) (q : QS .nx ρ1) : WG γ [d] ρ QS := ⟨d, ρ1, rfl, h, q⟩
theorem ws_asg {γ : DG} {δ : DE} (h : Wp (δ ρ) (fun x ρ1 => WC [x] ρ1 fun ds ρ2 => WG γ ds ρ2 QS) X) : Wp (dAsg γ δ ρ) QS X := by
  unfold dAsg
  refine Wp.bind (h.mono (fun x ρ1 ⟨ds, ρ2, h1, d, ρ3, e, h2, q⟩ => ?_) fun _ _ z => z)
  subst e
  unfold coerceAll at h1
  cases h3 : coerce x ρ1 with
  | bad => rw [h3] at h1; cases h1
  | exc c r => rw [h3] at h1; cases h1
  | ok d' ρ' =>
    rw [h3, R.bind_ok] at h1
    unfold coerceAll at h1
    cases h1
    rw [R.bind_ok, h2]
    exact q
/-! ### comprehensions -/
def WLc (γ : DG) (c : DB) (δ : DE) (vs : List Nat) (ds : List PyData) (ρ : Rho) (Q : DV → Rho → Prop) : Prop := ∃ zs ρ2, lcD γ c δ vs ds [] (wipeR ρ vs) = .ok zs ρ2 ∧ Q (.ow (.lst zs)) (restoreR ρ2 ρ vs)
theorem wp_lc {ι : DI} {γ : DG} {c : DB} {δ : DE} {vs : List Nat} (h : Wp (ι ρ) (fun ds ρ1 => WLc γ c δ vs ds ρ1 Q) X) : Wp (dLc ι γ c δ vs ρ) Q X := by
  unfold dLc
  refine Wp.bind (h.mono (fun ds ρ1 ⟨zs, ρ2, h1, q⟩ => ?_) fun _ _ z => z)
  rw [h1]
  exact q
theorem wp_yes {QB : Bool → Rho → Prop} (q : QB true ρ) : Wp (dYes ρ) QB X := q
/-- a turn of a comprehension that leaves the slots as they were -/
def LcTurn (γ : DG) (c : DB) (δ : DE) (vs : List Nat) (ρw : Rho) (d : PyData) (t : Bool) (z : PyData) : Prop := ∃ ρ1, γ d ρw = .ok .nx ρ1 ∧ Wp (c ρ1) (fun b ρ2 => b = t ∧ (t = true → Wp (δ ρ2) (fun y ρ3 => WC [y] ρ3 fun ds ρ4 => ds = [z] ∧ wipeR ρ4 vs = ρw) fun _ _ => False) ∧ (t = false → wipeR ρ2 vs = ρw)) fun _ _ => False
theorem lcD_pure {α : Type} {enc f : α → PyData} {p : α → Bool} {γ : DG} {c : DB} {δ : DE} {vs : List Nat} {ρw : Rho} : ∀ (l : List α) (acc : List PyData), acc.length + l.length ≤ 1000000 → (∀ a ∈ l, LcTurn γ c δ vs ρw (enc a) (p a) (f a)) →
    lcD γ c δ vs (l.map enc) acc ρw = .ok (acc ++ (l.filter p).map f) ρw
  | [], acc, _, _ => by simp [lcD]
  | a :: l, acc, hl, h => by
    have hl : acc.length + (l.length + 1) ≤ 1000000 := hl
    obtain ⟨ρ1, h1, h2⟩ := h a List.mem_cons_self
    obtain ⟨t, ρ2, h3, rfl, h4, h5⟩ := h2.get
    rw [List.map_cons]
    unfold lcD
    rw [h1]
    dsimp only
    rw [h3]
    cases q : p a with
    | false =>
      rw [q] at h5
      dsimp only
      rw [h5 rfl, lcD_pure l acc (by omega) fun b hb => h b (List.mem_cons_of_mem _ hb), List.filter_cons_of_neg (by simp [q])]
    | true =>
      rw [q] at h4
      obtain ⟨y, ρ3, h6, ds, ρ4, h7, e, h8⟩ := (h4 rfl).get
      subst e
      dsimp only
      rw [h6]
      dsimp only
      unfold coerceAll at h7
      cases h9 : coerce y ρ3 with
      | bad => rw [h9] at h7; cases h7
      | exc c r => rw [h9] at h7; cases h7
      | ok d' ρ' =>
        rw [h9, R.bind_ok] at h7
        unfold coerceAll at h7
        cases h7
        dsimp only
        rw [if_pos (by omega), h8, lcD_pure l (acc ++ [f a]) (by simp; omega) fun b hb => h b (List.mem_cons_of_mem _ hb), List.filter_cons_of_pos q]
        simp
theorem wlc {α : Type} {enc : α → PyData} (f : α → PyData) (p : α → Bool) {γ : DG} {c : DB} {δ : DE} {vs : List Nat} {l : List α} (hl : l.length ≤ 1000000) (h : ∀ a ∈ l, LcTurn γ c δ vs (wipeR ρ vs) (enc a) (p a) (f a)) (q : Q (.ow (.lst ((l.filter p).map f))) (restoreR (wipeR ρ vs) ρ vs)) : WLc γ c δ vs (l.map enc) ρ Q := by
  refine ⟨_, _, lcD_pure l [] (by simpa using hl) h, ?_⟩
  simpa using q
end DL
end

section
set_option Elab.async false
set_option linter.all false
set_option maxRecDepth 100000
set_option maxHeartbeats 1000000
/-! K10W: the defs of law k10, each with its data function. (printed by gen.py) -/
namespace G
open PySem PySem.Spec PyProof.Rows L2 DL DH
open LamX (TabB)
def top (i : Nat) : Stmt := PySem.Challenge.pw_grownblocks_k10_texts.main.body.getD i (.Pass ⟨0, 0, 0, 0⟩)
structure Bn (mg : Str → Option Value) : Prop where
  len : mg "len" = none
  abs : mg "abs" = none
  max : mg "max" = none
  min : mg "min" = none
  all : mg "all" = none
  any : mg "any" = none
  isinstance : mg "isinstance" = none
  range_ : mg "range" = none
  int_ : mg "int" = none
  str_ : mg "str" = none
  tuple_ : mg "tuple" = none
  list_ : mg "list" = none
  zip : mg "zip" = none
def nmc : Str → Option Str := fun c => if c = ("InvalidProgram" : Str) then some "program value" else if c = ("InvalidText" : Str) then some "text value" else none
theorem ite_inv {α : Type} {c : Prop} [Decidable c] {x : Option α} {r : α} (h : (if c then x else none) = some r) : c ∧ x = some r := by
  by_cases hc : c
  · rw [if_pos hc] at h; exact ⟨hc, h⟩
  · rw [if_neg hc] at h; cases h
def isExc : Option FR → Bool
  | some (.exc _) => true
  | _ => false
theorem noexc0 {n : Nat} {δ : DS} (h : isExc (bodyF n δ []) = false) : ∀ ds c, (if ds.length = 0 then bodyF n δ ds else none) ≠ some (.exc c) := fun ds c e => by
  obtain ⟨h1, h2⟩ := ite_inv e
  obtain rfl : ds = [] := List.length_eq_zero_iff.mp h1
  rw [h2] at h
  cases h
theorem de_pv {X : Cx} (i : Nat) {x : Str} {pos : Pos} (hN : X.N[i]? = some x := by rfl) (hv : Vis X.env.scope x := by first | exact Or.inl rfl | exact Or.inr (Or.inl rfl) | exact Or.inr (Or.inr rfl)) (hd : (x == ("__debug__" : Str)) = false := by decide) (hcd : (x == ("__classdict__" : Str)) = false := by decide) : PE X (.Name x pos) (tVar i) := pe_var hN hv hd hcd
/-- BlkOk by a look -/
def blkB (N : List Str) (sc scope : Scope) (own : List (Str × Nat)) : Bool :=
  decide (scope.kind = .function) && (scope.names.all fun y => scope.names.lookup y.1 == some y.2) && (own.all fun p => N[p.2]? == some p.1) && (scope.names.all fun y => !decide (y.2 = .free) || decide (sc.names.lookup y.1 = some .cell) || decide (sc.names.lookup y.1 = some .free)) &&
    scope.names.all fun y => !(decide (y.2 = .local) || decide (y.2 = .cell)) || (own.map (·.1)).contains y.1 || !N.contains y.1
theorem blk_by {N : List Str} {sc scope : Scope} {own : List (Str × Nat)} (h : blkB N sc scope own = true) : BlkOk N sc scope own := by
  unfold blkB at h
  simp only [Bool.and_eq_true, Bool.or_eq_true, Bool.not_eq_true', decide_eq_true_eq, decide_eq_false_iff_not, List.all_eq_true, beq_iff_eq] at h
  obtain ⟨⟨⟨⟨h1, h2⟩, h3⟩, h4⟩, h5⟩ := h
  refine ⟨h1, h2, h3, fun y hy e => ?_, fun y hy e => ?_⟩
  · rcases h4 y hy with (z | z) | z
    · exact absurd e z
    · exact .inl z
    · exact .inr z
  · rcases h5 y hy with (z | z) | z
    · rcases e with e | e <;> rw [e] at z <;> simp at z
    · exact .inl (by simpa using z)
    · exact .inr (by simpa using z)
variable [Tbl]
section
variable {P : Program} {w : World} {K : PySem.W.Frag} {mg : Str → Option Value} {base : Heap} {cv : Str → Value}
structure LamEnv (P : Program) (w : World) (K : PySem.W.Frag) (mg : Str → Option Value) (base : Heap) (cv : Str → Value) (nmc : Str → Option Str) (aN CS : Addr) : Prop where
  told : Told P w K mg base 1 aN CS cv nmc
  gE : mg "GrownError" = some (.ref CS)
  gN : mg "_law_names" = some (.ref aN)
  kN : PySem.W.keepIn K (.ref aN) = true
abbrev s_law_error : Stmt := top 37
abbrev s_law_told : Stmt := top 38

/-! ### is_step -/
abbrev s_is_step : Stmt := top 20
def d_is_step : DS := (dSeq (dIfS (dOrT (dNotT (dTest (dIsi "str" (dV 0)))) (dTest (dBin gtP (dB lenP (dCons (dV 0) dNil)) (dC (.int 2))))) (dRet (dC (.bool false))) dNext)
    (dRet (dOrV (dBin eqP (dV 0) (dC (.str ("." : Str)))) (dAndV (dBin eqP (dB lenP (dCons (dV 0) dNil)) (dC (.int 2))) (dAndV (dBin inP (dBin ixP (dV 0) (dC (.int 0))) (dC (.str ("+=-" : Str)))) (dBin inP (dBin ixP (dV 0) (dC (.int 1))) (dC (.str ("abcdef" : Str)))))))))
def F_is_step (ds : List PyData) : Option FR := if ds.length = 1 then bodyF 1 (d_is_step) ds else none
theorem sc_is_step : FnScope [("value" : Str)] [("value" : Str)] (defScope s_is_step) := ⟨rfl, rfl, rfl, by decide +kernel, rfl, by decide +kernel, by decide +kernel⟩
theorem fd_is_step (hB : Bn mg) {t_THINGS : Tok} (g_THINGS : mg ("THINGS" : Str) = some (.str ("abcdef" : Str) t_THINGS)) {f : Addr} (h : DefAt K mg ("is_step" : Str) s_is_step f) : Fd P w K mg base cv 1 ("is_step" : Str) F_is_step := by
  obtain ⟨⟨fd, Fn⟩, hm⟩ := h
  exact fd_of (k := 0) (cv := cv) (δ := (d_is_step)) Fn sc_is_step hm (Fn.binds (ps := [("value" : Str)]) fun _ _ _ _ _ _ us hl => match us, hl with | [_], _ => rfl) (fun cdv hcd A outer s H E hr => (ds_cons (ds_if (dt_w (dw_or (dt_not (dt_of (de_isi hB.isinstance hB.str_ (by decide +kernel) (de_var 0)))) (dw_or1 (dt_cmp od_gt (de_B cd_len hB.len (by decide +kernel) (da_cons (de_var 0) da_nil)) de_int)))) (ds_one (ds_ret de_bl)) ds_nil)
    (ds_one (ds_ret (de_or (de_cmp (od_eq (room64 hr)) (de_var 0) de_str) (de_one (de_and (de_cmp (od_eq (room64 hr)) (de_B cd_len hB.len (by decide +kernel) (da_cons (de_var 0) da_nil)) de_int) (de_and (de_cmp (od_in (room65 hr)) (de_ix (de_var 0) de_int) de_str) (de_one (de_cmp (od_in (room65 hr)) (de_ix (de_var 0) de_int) (de_gstr g_THINGS))))))))))) (fun ds r q => (ite_inv q).1) (fun ds r q => (ite_inv q).2)
/-! ### is_good -/
abbrev s_is_good : Stmt := top 21
def d_is_good : DS := (dSeq (dIfS (dOrT (dNotT (dTest (dIsi "tuple" (dV 0)))) (dOrT (dTest (dBin gtP (dB lenP (dCons (dV 0) dNil)) (dC (.int 16)))) (dNotT (dTest (dB allP (dCons (dLc (iTupD (dV 0)) (gN 1) dYes (dCall F_is_step (dCons (dV 1) dNil)) [1]) dNil)))))) (dRet (dC (.bool false))) dNext)
    (dSeq (dSet 2 (dLst dNil))
    (dSeq (dFor (iTupD (dV 0)) (gN 1) (dIfS (dTest (dBin eqP (dBin ixP (dV 1) (dC (.int 0))) (dC (.str ("-" : Str))))) (dSeq (dIfS (dTest (dBin notInP (dBin ixP (dV 1) (dC (.int 1))) (dV 2))) (dRet (dC (.bool false))) dNext)
    (dExpr (dMut 2 (dCons (dBin ixP (dV 1) (dC (.int 1))) dNil) removeM))) (dIfS (dTest (dBin neP (dV 1) (dC (.str ("." : Str))))) (dSeq (dIfS (dTest (dBin inP (dBin ixP (dV 1) (dC (.int 1))) (dV 2))) (dRet (dC (.bool false))) dNext)
    (dExpr (dMut 2 (dCons (dBin ixP (dV 1) (dC (.int 1))) dNil) appendM))) dNext)))
    (dRet (dBin eqP (dV 2) (dLst dNil))))))
def F_is_good (ds : List PyData) : Option FR := if ds.length = 1 then bodyF 3 (d_is_good) ds else none
theorem sc_is_good : FnScope [("value" : Str), ("step" : Str), ("now" : Str)] [("value" : Str)] (defScope s_is_good) := ⟨rfl, rfl, rfl, by decide +kernel, rfl, by decide +kernel, by decide +kernel⟩
theorem fd_is_good (hB : Bn mg) {t_LONGEST : Tok} (g_LONGEST : mg ("LONGEST" : Str) = some (.int 16 t_LONGEST)) (u_is_step : Fd P w K mg base cv 1 ("is_step" : Str) F_is_step) {f : Addr} (h : DefAt K mg ("is_good" : Str) s_is_good f) : Fd P w K mg base cv 2 ("is_good" : Str) F_is_good := by
  obtain ⟨⟨fd, Fn⟩, hm⟩ := h
  exact fd_of (k := 1) (cv := cv) (δ := (d_is_good)) Fn sc_is_good hm (Fn.binds (ps := [("value" : Str)]) fun _ _ _ _ _ _ us hl => match us, hl with | [_], _ => rfl) (fun cdv hcd A outer s H E hr => (ds_cons (ds_if (dt_w (dw_or (dt_not (dt_of (de_isi hB.isinstance hB.tuple_ (by decide +kernel) (de_var 0)))) (dw_or (dt_cmp od_gt (de_B cd_len hB.len (by decide +kernel) (da_cons (de_var 0) da_nil)) (de_gint g_LONGEST)) (dw_or1 (dt_not (dt_of (de_B (cd_all rfl) hB.all (by decide +kernel) (da_cons (de_lc (own := [(("step" : Str), 1)]) rfl sc_is_good.nd (di_tup (de_var 0)) (blk_by (by first | kernel_rfl | rfl)) (fun s H C cl fp => (pg_name sc_is_good.nd rfl (by first | exact Or.inl rfl | exact Or.inr rfl))) (cg_name (by decide)) (fun s H C cl fp => dts_nil) (fun s H C cl fp => (de_call (u_is_step.mono (by decide)) hr takesW0 (da_cons (de_var 1) da_nil)))) da_nil)))))))) (ds_one (ds_ret de_bl)) ds_nil)
    (ds_cons (ds_set (de_lst da_nil) sc_is_good.nd)
    (ds_cons (ds_for PassesOwn.leaving rfl (di_tup (de_var 0)) (dg_name sc_is_good.nd) (ds_one (ds_if (dt_cmp (od_eq (room64 hr)) (de_ix (de_var 1) de_int) de_str) (ds_cons (ds_if (dt_cmp (od_notIn (room65 hr)) (de_ix (de_var 1) de_int) (de_var 2)) (ds_one (ds_ret de_bl)) ds_nil)
    (ds_one (ds_expr (de_mut PySem.F.slot_list_remove PySem.F.type_list_remove ml_remove (de_var 2) (da_cons (de_ix (de_var 1) de_int) da_nil))))) (ds_one (ds_if (dt_cmp (od_ne (room64 hr)) (de_var 1) de_str) (ds_cons (ds_if (dt_cmp (od_in (room65 hr)) (de_ix (de_var 1) de_int) (de_var 2)) (ds_one (ds_ret de_bl)) ds_nil)
    (ds_one (ds_expr (de_mut PySem.F.slot_list_append PySem.F.type_list_append ml_append (de_var 2) (da_cons (de_ix (de_var 1) de_int) da_nil))))) ds_nil)))))
    (ds_one (ds_ret (de_cmp (od_eq (room64 hr)) (de_var 2) (de_lst da_nil)))))))) (fun ds r q => (ite_inv q).1) (fun ds r q => (ite_inv q).2)
/-! ### need_program -/
abbrev s_need_program : Stmt := top 22
def d_need_program : DS := (dIfS (dNotT (dTest (dCall F_is_good (dCons (dV 0) dNil)))) (fun ρ => .exc ("InvalidProgram" : Str) ρ) dNext)
def F_need_program (ds : List PyData) : Option FR := if ds.length = 1 then bodyF 1 (d_need_program) ds else none
theorem sc_need_program : FnScope [("program" : Str)] [("program" : Str)] (defScope s_need_program) := ⟨rfl, rfl, rfl, by decide +kernel, rfl, by decide +kernel, by decide +kernel⟩
theorem fd_need_program (e_InvalidProgram : ErrAt K mg cv ("InvalidProgram" : Str)) (u_is_good : Fd P w K mg base cv 2 ("is_good" : Str) F_is_good) {f : Addr} (h : DefAt K mg ("need_program" : Str) s_need_program f) : Fd P w K mg base cv 3 ("need_program" : Str) F_need_program := by
  obtain ⟨⟨fd, Fn⟩, hm⟩ := h
  exact fd_of (k := 2) (cv := cv) (δ := (d_need_program)) Fn sc_need_program hm (Fn.binds (ps := [("program" : Str)]) fun _ _ _ _ _ _ us hl => match us, hl with | [_], _ => rfl) (fun cdv hcd A outer s H E hr => (ds_one (ds_if (dt_not (dt_of (de_call (u_is_good.mono (by decide)) hr (L2N.takes_of rfl rfl rfl rfl) (da_cons (de_var 0) da_nil)))) (ds_one (ds_raiseE e_InvalidProgram rfl (L2N.takes_of rfl rfl rfl rfl))) ds_nil))) (fun ds r q => (ite_inv q).1) (fun ds r q => (ite_inv q).2)
/-! ### text_of -/
abbrev s_text_of : Stmt := top 25
def d_text_of : DS := (dRet (dIf (dTest (dBin neP (dV 0) (dTup dNil))) (dM1 joinP (dC (.str (" " : Str))) (dV 0)) (dC (.str ("nothing" : Str)))))
def F_text_of (ds : List PyData) : Option FR := if ds.length = 1 then bodyF 1 (d_text_of) ds else none
theorem sc_text_of : FnScope [("program" : Str)] [("program" : Str)] (defScope s_text_of) := ⟨rfl, rfl, rfl, by decide +kernel, rfl, by decide +kernel, by decide +kernel⟩
theorem fd_text_of {t_EMPTY : Tok} (g_EMPTY : mg ("EMPTY" : Str) = some (.str ("nothing" : Str) t_EMPTY)) {f : Addr} (h : DefAt K mg ("text_of" : Str) s_text_of f) : Fd P w K mg base cv 1 ("text_of" : Str) F_text_of := by
  obtain ⟨⟨fd, Fn⟩, hm⟩ := h
  exact fd_of (k := 0) (cv := cv) (δ := (d_text_of)) Fn sc_text_of hm (Fn.binds (ps := [("program" : Str)]) fun _ _ _ _ _ _ us hl => match us, hl with | [_], _ => rfl) (fun cdv hcd A outer s H E hr => (ds_one (ds_ret (de_if (dt_cmp (od_ne (room64 hr)) (de_var 0) (de_tup da_nil)) (de_m1 PySem.F.slot_str_join PySem.F.type_str_join md_join de_str (de_var 0)) (de_gstr g_EMPTY))))) (fun ds r q => (ite_inv q).1) (fun ds r q => (ite_inv q).2)
/-! ### program_in -/
abbrev s_program_in : Stmt := top 26
def d_program_in : DS := (dSeq (dIfS (dNotT (dTest (dIsi "str" (dV 0)))) (dRet (dC .none)) dNext)
    (dSeq (dSet 1 (dIf (dTest (dBin neP (dV 0) (dC (.str ("nothing" : Str))))) (dB tupleP (dCons (dM1 splitP (dV 0) (dC (.str (" " : Str)))) dNil)) (dTup dNil)))
    (dRet (dIf (dTest (dCall F_is_good (dCons (dV 1) dNil))) (dV 1) (dC .none)))))
def F_program_in (ds : List PyData) : Option FR := if ds.length = 1 then bodyF 2 (d_program_in) ds else none
theorem sc_program_in : FnScope [("value" : Str), ("found" : Str)] [("value" : Str)] (defScope s_program_in) := ⟨rfl, rfl, rfl, by decide +kernel, rfl, by decide +kernel, by decide +kernel⟩
theorem fd_program_in (hB : Bn mg) {t_EMPTY : Tok} (g_EMPTY : mg ("EMPTY" : Str) = some (.str ("nothing" : Str) t_EMPTY)) (u_is_good : Fd P w K mg base cv 2 ("is_good" : Str) F_is_good) {f : Addr} (h : DefAt K mg ("program_in" : Str) s_program_in f) : Fd P w K mg base cv 3 ("program_in" : Str) F_program_in := by
  obtain ⟨⟨fd, Fn⟩, hm⟩ := h
  exact fd_of (k := 2) (cv := cv) (δ := (d_program_in)) Fn sc_program_in hm (Fn.binds (ps := [("value" : Str)]) fun _ _ _ _ _ _ us hl => match us, hl with | [_], _ => rfl) (fun cdv hcd A outer s H E hr => (ds_cons (ds_if (dt_not (dt_of (de_isi hB.isinstance hB.str_ (by decide +kernel) (de_var 0)))) (ds_one (ds_ret de_non)) ds_nil)
    (ds_cons (ds_set (de_if (dt_cmp (od_ne (room64 hr)) (de_var 0) (de_gstr g_EMPTY)) (de_Ty cd_tuple hB.tuple_ (by decide +kernel) (da_cons (de_m1 PySem.F.slot_str_split PySem.F.type_str_split md_split (de_var 0) de_str) da_nil)) (de_tup da_nil)) sc_program_in.nd)
    (ds_one (ds_ret (de_if (dt_of (de_call (u_is_good.mono (by decide)) hr (L2N.takes_of rfl rfl rfl rfl) (da_cons (de_var 1) da_nil))) (de_var 1) de_non)))))) (fun ds r q => (ite_inv q).1) (fun ds r q => (ite_inv q).2)
/-! ### program_text -/
abbrev s_program_text : Stmt := top 27
def d_program_text : DS := (dSeq (dExpr (dCall F_need_program (dCons (dV 0) dNil)))
    (dRet (dCall F_text_of (dCons (dV 0) dNil))))
def F_program_text (ds : List PyData) : Option FR := if ds.length = 1 then bodyF 1 (d_program_text) ds else none
theorem sc_program_text : FnScope [("program" : Str)] [("program" : Str)] (defScope s_program_text) := ⟨rfl, rfl, rfl, by decide +kernel, rfl, by decide +kernel, by decide +kernel⟩
theorem fd_program_text (u_need_program : Fd P w K mg base cv 3 ("need_program" : Str) F_need_program) (u_text_of : Fd P w K mg base cv 1 ("text_of" : Str) F_text_of) {f : Addr} (h : DefAt K mg ("program_text" : Str) s_program_text f) : Fd P w K mg base cv 4 ("program_text" : Str) F_program_text := by
  obtain ⟨⟨fd, Fn⟩, hm⟩ := h
  exact fd_of (k := 3) (cv := cv) (δ := (d_program_text)) Fn sc_program_text hm (Fn.binds (ps := [("program" : Str)]) fun _ _ _ _ _ _ us hl => match us, hl with | [_], _ => rfl) (fun cdv hcd A outer s H E hr => (ds_cons (ds_expr (de_call (u_need_program.mono (by decide)) hr (L2N.takes_of rfl rfl rfl rfl) (da_cons (de_var 0) da_nil)))
    (ds_one (ds_ret (de_call (u_text_of.mono (by decide)) hr (L2N.takes_of rfl rfl rfl rfl) (da_cons (de_var 0) da_nil)))))) (fun ds r q => (ite_inv q).1) (fun ds r q => (ite_inv q).2)
/-! ### read_program -/
abbrev s_read_program : Stmt := top 28
def d_read_program : DS := (dSeq (dSet 1 (dCall F_program_in (dCons (dV 0) dNil)))
    (dSeq (dIfS (dTest (dBin isNoneP (dV 1) (dC .none))) (fun ρ => .exc ("InvalidText" : Str) ρ) dNext)
    (dRet (dV 1))))
def F_read_program (ds : List PyData) : Option FR := if ds.length = 1 then bodyF 2 (d_read_program) ds else none
theorem sc_read_program : FnScope [("value" : Str), ("found" : Str)] [("value" : Str)] (defScope s_read_program) := ⟨rfl, rfl, rfl, by decide +kernel, rfl, by decide +kernel, by decide +kernel⟩
theorem fd_read_program (e_InvalidText : ErrAt K mg cv ("InvalidText" : Str)) (u_program_in : Fd P w K mg base cv 3 ("program_in" : Str) F_program_in) {f : Addr} (h : DefAt K mg ("read_program" : Str) s_read_program f) : Fd P w K mg base cv 4 ("read_program" : Str) F_read_program := by
  obtain ⟨⟨fd, Fn⟩, hm⟩ := h
  exact fd_of (k := 3) (cv := cv) (δ := (d_read_program)) Fn sc_read_program hm (Fn.binds (ps := [("value" : Str)]) fun _ _ _ _ _ _ us hl => match us, hl with | [_], _ => rfl) (fun cdv hcd A outer s H E hr => (ds_cons (ds_set (de_call (u_program_in.mono (by decide)) hr (L2N.takes_of rfl rfl rfl rfl) (da_cons (de_var 0) da_nil)) sc_read_program.nd)
    (ds_cons (ds_if (dt_cmp od_isN (de_var 1) de_non) (ds_one (ds_raiseE e_InvalidText rfl (L2N.takes_of rfl rfl rfl rfl))) ds_nil)
    (ds_one (ds_ret (de_var 1)))))) (fun ds r q => (ite_inv q).1) (fun ds r q => (ite_inv q).2)
/-! ### _law_vat -/
abbrev s_law_vat : Stmt := top 30
def d_law_vat : DS := (dSeq (dSet 2 (dBin addP (dBin mulP (dC (.int 7919)) (dV 1)) (dC (.int 43))))
    (dSeq (dIfS (dTest (dBin ltP (dV 1) (dB lenP (dCons (dV 0) dNil)))) (dSet 2 (dB absP (dCons (dB intP (dCons (dBin ixP (dV 0) (dV 1)) dNil)) dNil))) dNext)
    (dRet (dLst (dCons (dIf (dTest (dBin geP (dV 2) (dBin powP (dC (.int 10)) (dC (.int 18))))) (dV 2) (dC (.int 0))) (dCons (dBin addP (dBin modP (dB intP (dCons (dBin addP (dBin addP (dBin mulP (dV 2) (dC (.int 131071))) (dBin mulP (dC (.int 8191)) (dV 1))) (dC (.int 5))) dNil)) (dC (.int 2147483629))) (dC (.int 1))) dNil))))))
def F_law_vat (ds : List PyData) : Option FR := if ds.length = 2 then bodyF 3 (d_law_vat) ds else none
theorem sc_law_vat : FnScope [("script" : Str), ("k" : Str), ("cell" : Str)] [("script" : Str), ("k" : Str)] (defScope s_law_vat) := ⟨rfl, rfl, rfl, by decide +kernel, rfl, by decide +kernel, by decide +kernel⟩
theorem fd_law_vat (hB : Bn mg) {f : Addr} (h : DefAt K mg ("_law_vat" : Str) s_law_vat f) : Fd P w K mg base cv 1 ("_law_vat" : Str) F_law_vat := by
  obtain ⟨⟨fd, Fn⟩, hm⟩ := h
  exact fd_of (k := 0) (cv := cv) (δ := (d_law_vat)) Fn sc_law_vat hm (Fn.binds (ps := [("script" : Str), ("k" : Str)]) fun _ _ _ _ _ _ us hl => match us, hl with | [_, _], _ => rfl) (fun cdv hcd A outer s H E hr => (ds_cons (ds_set (de_op od_add (de_op od_mul de_int (de_var 1)) de_int) sc_law_vat.nd)
    (ds_cons (ds_if (dt_cmp od_lt (de_var 1) (de_B cd_len hB.len (by decide +kernel) (da_cons (de_var 0) da_nil))) (ds_one (ds_set (de_B cd_abs hB.abs (by decide +kernel) (da_cons (de_Ty cd_int hB.int_ (by decide +kernel) (da_cons (de_ix (de_var 0) (de_var 1)) da_nil)) da_nil)) sc_law_vat.nd)) ds_nil)
    (ds_one (ds_ret (de_lst (da_cons (de_if (dt_cmp od_ge (de_var 2) (de_op od_pow de_int de_int)) (de_var 2) de_int) (da_cons (de_op od_add (de_op od_mod (de_Ty cd_int hB.int_ (by decide +kernel) (da_cons (de_op od_add (de_op od_add (de_op od_mul (de_var 2) de_int) (de_op od_mul de_int (de_var 1))) de_int) da_nil)) de_int) de_int) da_nil)))))))) (fun ds r q => (ite_inv q).1) (fun ds r q => (ite_inv q).2)
/-! ### _law_under -/
abbrev s_law_under : Stmt := top 31
def d_law_under : DS := (dSeq (dIfS (dTest (dBin gtP (dBin ixP (dV 0) (dC (.int 0))) (dC (.int 0)))) (dSeq (dSet 2 (dBin modP (dB intP (dCons (dBin ixP (dV 0) (dC (.int 0))) dNil)) (dV 1)))
    (dSeq (dSetIx 0 (dC (.int 0)) (dBin fdivP (dBin ixP (dV 0) (dC (.int 0))) (dV 1)))
    (dRet (dV 2)))) dNext)
    (dSeq (dSetIx 0 (dC (.int 1)) (dBin modP (dB intP (dCons (dBin addP (dBin mulP (dBin ixP (dV 0) (dC (.int 1))) (dC (.int 39373))) (dC (.int 101))) dNil)) (dC (.int 2147483629))))
    (dSeq (dSet 3 (dBin modP (dB intP (dCons (dBin mulP (dBin ixP (dV 0) (dC (.int 1))) (dBin addP (dBin fdivP (dBin ixP (dV 0) (dC (.int 1))) (dC (.int 5))) (dC (.int 9)))) dNil)) (dC (.int 2147483587))))
    (dRet (dBin modP (dB intP (dCons (dBin fdivP (dV 3) (dC (.int 32))) dNil)) (dV 1))))))
def F_law_under (c ds : List PyData) : Option (List PyData × DV) := if ds.length + 1 = 2 then bodyM2 4 d_law_under c ds else none
theorem sc_law_under : FnScope [("vat" : Str), ("many" : Str), ("found" : Str), ("wide" : Str)] [("vat" : Str), ("many" : Str)] (defScope s_law_under) := ⟨rfl, rfl, rfl, by decide +kernel, rfl, by decide +kernel, by decide +kernel⟩
theorem fd_law_under (hB : Bn mg) {f : Addr} (h : DefAt K mg ("_law_under" : Str) s_law_under f) : FdM P w K mg base 1 ("_law_under" : Str) F_law_under := by
  obtain ⟨⟨fd, Fn⟩, hm⟩ := h
  exact fdM_of (k := 0) (cv := (fun _ => Value.none)) (δ := (d_law_under)) Fn sc_law_under hm (Fn.binds (ps := [("vat" : Str), ("many" : Str)]) fun _ _ _ _ _ _ us hl => match us, hl with | [_, _], _ => rfl) (fun cdv hcd A outer s H E hr => (ds_cons (ds_if (dt_cmp od_gt (de_ix (de_var 0) de_int) de_int) (ds_cons (ds_set (de_op od_mod (de_Ty cd_int hB.int_ (by decide +kernel) (da_cons (de_ix (de_var 0) de_int) da_nil)) (de_var 1)) sc_law_under.nd)
    (ds_cons (ds_setIx (de_op od_fdiv (de_ix (de_var 0) de_int) (de_var 1)) (de_var 0) de_int)
    (ds_one (ds_ret (de_var 2))))) ds_nil)
    (ds_cons (ds_setIx (de_op od_mod (de_Ty cd_int hB.int_ (by decide +kernel) (da_cons (de_op od_add (de_op od_mul (de_ix (de_var 0) de_int) de_int) de_int) da_nil)) de_int) (de_var 0) de_int)
    (ds_cons (ds_set (de_op od_mod (de_Ty cd_int hB.int_ (by decide +kernel) (da_cons (de_op od_mul (de_ix (de_var 0) de_int) (de_op od_add (de_op od_fdiv (de_ix (de_var 0) de_int) de_int) de_int)) da_nil)) de_int) sc_law_under.nd)
    (ds_one (ds_ret (de_op od_mod (de_Ty cd_int hB.int_ (by decide +kernel) (da_cons (de_op od_fdiv (de_var 3) de_int) da_nil)) (de_var 1)))))))) (fun c ds r q => (ite_inv q).1) (fun c ds r q => (ite_inv q).2)
/-! ### _law_some -/
abbrev s_law_some : Stmt := top 32
def d_law_some : DS := (dRet (dBin ixP (dV 1) (dCallM F_law_under 0 (dCons (dB lenP (dCons (dV 1) dNil)) dNil))))
def F_law_some (c ds : List PyData) : Option (List PyData × DV) := if ds.length + 1 = 2 then bodyM2 2 d_law_some c ds else none
theorem sc_law_some : FnScope [("vat" : Str), ("things" : Str)] [("vat" : Str), ("things" : Str)] (defScope s_law_some) := ⟨rfl, rfl, rfl, by decide +kernel, rfl, by decide +kernel, by decide +kernel⟩
theorem fd_law_some (hB : Bn mg) (u_law_under : FdM P w K mg base 1 ("_law_under" : Str) F_law_under) {f : Addr} (h : DefAt K mg ("_law_some" : Str) s_law_some f) : FdM P w K mg base 2 ("_law_some" : Str) F_law_some := by
  obtain ⟨⟨fd, Fn⟩, hm⟩ := h
  exact fdM_of (k := 1) (cv := (fun _ => Value.none)) (δ := (d_law_some)) Fn sc_law_some hm (Fn.binds (ps := [("vat" : Str), ("things" : Str)]) fun _ _ _ _ _ _ us hl => match us, hl with | [_, _], _ => rfl) (fun cdv hcd A outer s H E hr => (ds_one (ds_ret (de_ix (de_var 1) (de_callM (u_law_under.mono (by decide)) hr (de_var 0) (da_cons (de_B cd_len hB.len (by decide +kernel) (da_cons (de_var 1) da_nil)) da_nil)))))) (fun c ds r q => (ite_inv q).1) (fun c ds r q => (ite_inv q).2)
/-! ### _law_is_step -/
abbrev s_law_is_step : Stmt := top 33
def d_law_is_step : DS := (dSeq (dIfS (dOrT (dNotT (dTest (dIsi "str" (dV 0)))) (dOrT (dTest (dBin eqP (dV 0) (dC (.str ("" : Str))))) (dTest (dBin gtP (dB lenP (dCons (dV 0) dNil)) (dC (.int 2)))))) (dRet (dC (.bool false))) dNext)
    (dRet (dOrV (dBin eqP (dV 0) (dC (.str ("." : Str)))) (dAndV (dBin eqP (dB lenP (dCons (dV 0) dNil)) (dC (.int 2))) (dAndV (dBin inP (dBin ixP (dV 0) (dC (.int 0))) (dC (.str ("+=-" : Str)))) (dBin inP (dBin ixP (dV 0) (dC (.int 1))) (dC (.str ("abcdef" : Str)))))))))
def F_law_is_step (ds : List PyData) : Option FR := if ds.length = 1 then bodyF 1 (d_law_is_step) ds else none
theorem sc_law_is_step : FnScope [("value" : Str)] [("value" : Str)] (defScope s_law_is_step) := ⟨rfl, rfl, rfl, by decide +kernel, rfl, by decide +kernel, by decide +kernel⟩
theorem fd_law_is_step (hB : Bn mg) {f : Addr} (h : DefAt K mg ("_law_is_step" : Str) s_law_is_step f) : Fd P w K mg base cv 1 ("_law_is_step" : Str) F_law_is_step := by
  obtain ⟨⟨fd, Fn⟩, hm⟩ := h
  exact fd_of (k := 0) (cv := cv) (δ := (d_law_is_step)) Fn sc_law_is_step hm (Fn.binds (ps := [("value" : Str)]) fun _ _ _ _ _ _ us hl => match us, hl with | [_], _ => rfl) (fun cdv hcd A outer s H E hr => (ds_cons (ds_if (dt_w (dw_or (dt_not (dt_of (de_isi hB.isinstance hB.str_ (by decide +kernel) (de_var 0)))) (dw_or (dt_cmp (od_eq (room64 hr)) (de_var 0) de_str) (dw_or1 (dt_cmp od_gt (de_B cd_len hB.len (by decide +kernel) (da_cons (de_var 0) da_nil)) de_int))))) (ds_one (ds_ret de_bl)) ds_nil)
    (ds_one (ds_ret (de_or (de_cmp (od_eq (room64 hr)) (de_var 0) de_str) (de_one (de_and (de_cmp (od_eq (room64 hr)) (de_B cd_len hB.len (by decide +kernel) (da_cons (de_var 0) da_nil)) de_int) (de_and (de_cmp (od_in (room65 hr)) (de_ix (de_var 0) de_int) de_str) (de_one (de_cmp (od_in (room65 hr)) (de_ix (de_var 0) de_int) de_str)))))))))) (fun ds r q => (ite_inv q).1) (fun ds r q => (ite_inv q).2)
/-! ### _law_is_program -/
abbrev s_law_is_program : Stmt := top 34
def d_law_is_program : DS := (dSeq (dIfS (dOrT (dNotT (dTest (dIsi "tuple" (dV 0)))) (dTest (dBin gtP (dB lenP (dCons (dV 0) dNil)) (dC (.int 16))))) (dRet (dC (.bool false))) dNext)
    (dSeq (dIfS (dTest (dBin neP (dLc (iTupD (dV 0)) (gN 1) (dNotT (dTest (dCall F_law_is_step (dCons (dV 1) dNil)))) (dV 1) [1]) (dLst dNil))) (dRet (dC (.bool false))) dNext)
    (dSeq (dSet 2 dDicK)
    (dSeq (dFor (iTupD (dV 0)) (gN 1) (dSeq (dIfS (dAndT (dTest (dBin eqP (dBin ixP (dV 1) (dC (.int 0))) (dC (.str ("-" : Str))))) (dNotT (dTest (dGet2 (dV 2) (dBin ixP (dV 1) (dC (.int 1))) (dC (.bool false)))))) (dRet (dC (.bool false))) dNext)
    (dSeq (dIfS (dAndT (dTest (dBin inP (dBin ixP (dV 1) (dC (.int 0))) (dC (.str ("+=" : Str))))) (dTest (dGet2 (dV 2) (dBin ixP (dV 1) (dC (.int 1))) (dC (.bool false))))) (dRet (dC (.bool false))) dNext)
    (dIfS (dTest (dBin neP (dV 1) (dC (.str ("." : Str))))) (dPut 2 (dBin ixP (dV 1) (dC (.int 1))) (dBin neP (dBin ixP (dV 1) (dC (.int 0))) (dC (.str ("-" : Str))))) dNext))))
    (dRet (dBin notInP (dC (.bool true)) (dLcK 2 (gN 3) dYes (dLoad (dV 2) (dV 3)) [3])))))))
def F_law_is_program (ds : List PyData) : Option FR := if ds.length = 1 then bodyF 4 (d_law_is_program) ds else none
theorem sc_law_is_program : FnScope [("value" : Str), ("step" : Str), ("now" : Str), ("thing" : Str)] [("value" : Str)] (defScope s_law_is_program) := ⟨rfl, rfl, rfl, by decide +kernel, rfl, by decide +kernel, by decide +kernel⟩
theorem fd_law_is_program (hB : Bn mg) (u_law_is_step : Fd P w K mg base cv 1 ("_law_is_step" : Str) F_law_is_step) {f : Addr} (h : DefAt K mg ("_law_is_program" : Str) s_law_is_program f) : Fd P w K mg base cv 2 ("_law_is_program" : Str) F_law_is_program := by
  obtain ⟨⟨fd, Fn⟩, hm⟩ := h
  exact fd_of (k := 1) (cv := cv) (δ := (d_law_is_program)) Fn sc_law_is_program hm (Fn.binds (ps := [("value" : Str)]) fun _ _ _ _ _ _ us hl => match us, hl with | [_], _ => rfl) (fun cdv hcd A outer s H E hr => (ds_cons (ds_if (dt_w (dw_or (dt_not (dt_of (de_isi hB.isinstance hB.tuple_ (by decide +kernel) (de_var 0)))) (dw_or1 (dt_cmp od_gt (de_B cd_len hB.len (by decide +kernel) (da_cons (de_var 0) da_nil)) de_int)))) (ds_one (ds_ret de_bl)) ds_nil)
    (ds_cons (ds_if (dt_cmp (od_ne (room64 hr)) (de_lc (own := [(("step" : Str), 1)]) rfl sc_law_is_program.nd (di_tup (de_var 0)) (blk_by (by first | kernel_rfl | rfl)) (fun s H C cl fp => (pg_name sc_law_is_program.nd rfl (by first | exact Or.inl rfl | exact Or.inr rfl))) (cg_name (by decide)) (fun s H C cl fp => (dts_one (dt_not (dt_of (de_call (u_law_is_step.mono (by decide)) hr takesW0 (da_cons (de_var 1) da_nil)))))) (fun s H C cl fp => (de_var 1))) (de_lst da_nil)) (ds_one (ds_ret de_bl)) ds_nil)
    (ds_cons (ds_set de_dicK sc_law_is_program.nd)
    (ds_cons (ds_for PassesOwn.leaving rfl (di_tup (de_var 0)) (dg_name sc_law_is_program.nd) (ds_cons (ds_if (dt_w (dw_and (dt_cmp (od_eq (room64 hr)) (de_ix (de_var 1) de_int) de_str) (dw_and1 (dt_not (dt_of (de_get2 (room1 hr) (de_var 2) (de_ix (de_var 1) de_int) de_bl ⟨rfl, rfl, rfl, rfl⟩)))))) (ds_one (ds_ret de_bl)) ds_nil)
    (ds_cons (ds_if (dt_w (dw_and (dt_cmp (od_in (room65 hr)) (de_ix (de_var 1) de_int) de_str) (dw_and1 (dt_of (de_get2 (room1 hr) (de_var 2) (de_ix (de_var 1) de_int) de_bl ⟨rfl, rfl, rfl, rfl⟩))))) (ds_one (ds_ret de_bl)) ds_nil)
    (ds_one (ds_if (dt_cmp (od_ne (room64 hr)) (de_var 1) de_str) (ds_one (ds_dput (room1 hr) (de_cmp (od_ne (room64 hr)) (de_ix (de_var 1) de_int) de_str) (de_var 2) (de_ix (de_var 1) de_int))) ds_nil)))))
    (ds_one (ds_ret (de_cmp (od_notIn (room65 hr)) de_bl (de_lcK (own := [(("thing" : Str), 3)]) rfl sc_law_is_program.nd (de_pv 2) (blk_by (by first | kernel_rfl | rfl)) (fun s H C cl fp => (pg_name sc_law_is_program.nd rfl (by first | exact Or.inl rfl | exact Or.inr rfl))) (cg_name (by decide)) (fun s H C cl fp => dts_nil) (fun s H C cl fp => (de_load (room1 hr) (de_var 2) (de_var 3)))))))))))) (fun ds r q => (ite_inv q).1) (fun ds r q => (ite_inv q).2)
/-! ### _law_program -/
abbrev s_law_program : Stmt := top 35
def d_law_program : DS := (dSeq (dPar3 3 4 5 (dCallM F_law_under 0 (dCons (dBin addP (dV 1) (dC (.int 1))) dNil)) (dLst dNil) (dTup dNil))
    (dSeq (whileD (dTest (dBin ltP (dBin addP (dB lenP (dCons (dV 5) dNil)) (dB lenP (dCons (dV 4) dNil))) (dV 3))) (dSeq (dSet 6 (dLc (iStrD (dV 2)) (gN 7) (dTest (dBin notInP (dV 7) (dV 4))) (dV 7) [7]))
    (dSeq (dSet 8 (dBin leP (dBin addP (dBin addP (dB lenP (dCons (dV 5) dNil)) (dB lenP (dCons (dV 4) dNil))) (dC (.int 2))) (dV 3)))
    (dSeq (dSet 9 (dCallM F_law_under 0 (dCons (dC (.int 5)) dNil)))
    (dIfS (dAndT (dTest (dBin ltP (dV 9) (dC (.int 3)))) (dAndT (dTest (dBin neP (dV 6) (dLst dNil))) (dTest (dV 8)))) (dSeq (dSet 7 (dCallM F_law_some 0 (dCons (dV 6) dNil)))
    (dSeq (dExpr (dMut 4 (dCons (dV 7) dNil) appendM))
    (dSet 5 (dBin addP (dV 5) (dTup (dCons (dBin addP (dCallM F_law_some 0 (dCons (dLst (dCons (dC (.str ("+" : Str))) (dCons (dC (.str ("+" : Str))) (dCons (dC (.str ("=" : Str))) dNil)))) dNil)) (dV 7)) dNil)))))) (dIfS (dAndT (dTest (dBin ltP (dV 9) (dC (.int 4)))) (dTest (dBin neP (dV 4) (dLst dNil)))) (dSet 5 (dBin addP (dV 5) (dTup (dCons (dBin addP (dC (.str ("-" : Str))) (dMut 4 (dCons (dCallM F_law_under 0 (dCons (dB lenP (dCons (dV 4) dNil)) dNil)) dNil) popAtM)) dNil)))) (dSet 5 (dBin addP (dV 5) (dTup (dCons (dC (.str ("." : Str))) dNil))))))))) 200)
    (dSeq (whileD (dTest (dBin neP (dV 4) (dLst dNil))) (dSet 5 (dBin addP (dV 5) (dTup (dCons (dBin addP (dC (.str ("-" : Str))) (dMut 4 (dCons (dCallM F_law_under 0 (dCons (dB lenP (dCons (dV 4) dNil)) dNil)) dNil) popAtM)) dNil)))) 40)
    (dRet (dV 5)))))
def F_law_program (c ds : List PyData) : Option (List PyData × DV) := if ds.length + 1 = 3 then bodyM2 10 d_law_program c ds else none
theorem sc_law_program : FnScope [("vat" : Str), ("most" : Str), ("things" : Str), ("size" : Str), ("now" : Str), ("found" : Str), ("free" : Str), ("thing" : Str), ("room" : Str), ("way" : Str)] [("vat" : Str), ("most" : Str), ("things" : Str)] (defScope s_law_program) := ⟨rfl, rfl, rfl, by decide +kernel, rfl, by decide +kernel, by decide +kernel⟩
theorem fd_law_program (hB : Bn mg) (u_law_some : FdM P w K mg base 2 ("_law_some" : Str) F_law_some) (u_law_under : FdM P w K mg base 1 ("_law_under" : Str) F_law_under) {f : Addr} (h : DefAt K mg ("_law_program" : Str) s_law_program f) : FdM P w K mg base 3 ("_law_program" : Str) F_law_program := by
  obtain ⟨⟨fd, Fn⟩, hm⟩ := h
  exact fdM_of (k := 2) (cv := (fun _ => Value.none)) (δ := (d_law_program)) Fn sc_law_program hm (Fn.binds (ps := [("vat" : Str), ("most" : Str), ("things" : Str)]) fun _ _ _ _ _ _ us hl => match us, hl with | [_, _, _], _ => rfl) (fun cdv hcd A outer s H E hr => (ds_cons (ds_parT3 rfl sc_law_program.nd (by decide) (by decide) (by decide) (de_callM (u_law_under.mono (by decide)) hr (de_var 0) (da_cons (de_op od_add (de_var 1) de_int) da_nil)) (de_lst da_nil) (de_tup da_nil) (gs := (pgs_cons (pg_name sc_law_program.nd rfl (by first | exact Or.inl rfl | exact Or.inr rfl)) (pgs_cons (pg_name sc_law_program.nd rfl (by first | exact Or.inl rfl | exact Or.inr rfl)) (pgs_cons (pg_name sc_law_program.nd rfl (by first | exact Or.inl rfl | exact Or.inr rfl)) pgs_nil)))))
    (ds_cons (ds_while 200 PassesOwn.leaving (dt_cmp od_lt (de_op od_add (de_B cd_len hB.len (by decide +kernel) (da_cons (de_var 5) da_nil)) (de_B cd_len hB.len (by decide +kernel) (da_cons (de_var 4) da_nil))) (de_var 3)) (ds_cons (ds_setLc (own := [(("thing" : Str), 7)]) rfl sc_law_program.nd rfl (sw_true rfl rfl rfl rfl) (di_str (de_var 2)) (blk_by (by first | kernel_rfl | rfl)) (fun s H C cl fp => (pg_name sc_law_program.nd rfl (by first | exact Or.inl rfl | exact Or.inr rfl))) (cg_name (by decide)) (fun s H C cl fp => (dts_one (dt_cmp (od_notIn (room65 hr)) (de_var 7) (de_var 4)))) (fun s H C cl fp => (de_var 7)))
    (ds_cons (ds_set (de_cmp od_le (de_op od_add (de_op od_add (de_B cd_len hB.len (by decide +kernel) (da_cons (de_var 5) da_nil)) (de_B cd_len hB.len (by decide +kernel) (da_cons (de_var 4) da_nil))) de_int) (de_var 3)) sc_law_program.nd)
    (ds_cons (ds_set (de_callM (u_law_under.mono (by decide)) hr (de_var 0) (da_cons de_int da_nil)) sc_law_program.nd)
    (ds_one (ds_if (dt_w (dw_and (dt_cmp od_lt (de_var 9) de_int) (dw_and (dt_cmp (od_ne (room64 hr)) (de_var 6) (de_lst da_nil)) (dw_and1 (dt_of (de_var 8)))))) (ds_cons (ds_set (de_callM (u_law_some.mono (by decide)) hr (de_var 0) (da_cons (de_var 6) da_nil)) sc_law_program.nd)
    (ds_cons (ds_expr (de_mut PySem.F.slot_list_append PySem.F.type_list_append ml_append (de_var 4) (da_cons (de_var 7) da_nil)))
    (ds_one (ds_set (de_op od_add (de_var 5) (de_tup (da_cons (de_op od_add (de_callM (u_law_some.mono (by decide)) hr (de_var 0) (da_cons (de_lst (da_cons de_str (da_cons de_str (da_cons de_str da_nil)))) da_nil)) (de_var 7)) da_nil))) sc_law_program.nd)))) (ds_one (ds_if (dt_w (dw_and (dt_cmp od_lt (de_var 9) de_int) (dw_and1 (dt_cmp (od_ne (room64 hr)) (de_var 4) (de_lst da_nil))))) (ds_one (ds_set (de_op od_add (de_var 5) (de_tup (da_cons (de_op od_add de_str (de_mut PySem.F.slot_list_pop PySem.F.type_list_pop ml_popAt (de_var 4) (da_cons (de_callM (u_law_under.mono (by decide)) hr (de_var 0) (da_cons (de_B cd_len hB.len (by decide +kernel) (da_cons (de_var 4) da_nil)) da_nil)) da_nil))) da_nil))) sc_law_program.nd)) (ds_one (ds_set (de_op od_add (de_var 5) (de_tup (da_cons de_str da_nil))) sc_law_program.nd))))))))))
    (ds_cons (ds_while 40 PassesOwn.leaving (dt_cmp (od_ne (room64 hr)) (de_var 4) (de_lst da_nil)) (ds_one (ds_set (de_op od_add (de_var 5) (de_tup (da_cons (de_op od_add de_str (de_mut PySem.F.slot_list_pop PySem.F.type_list_pop ml_popAt (de_var 4) (da_cons (de_callM (u_law_under.mono (by decide)) hr (de_var 0) (da_cons (de_B cd_len hB.len (by decide +kernel) (da_cons (de_var 4) da_nil)) da_nil)) da_nil))) da_nil))) sc_law_program.nd)))
    (ds_one (ds_ret (de_var 5))))))) (fun c ds r q => (ite_inv q).1) (fun c ds r q => (ite_inv q).2)
/-! ### _law_known -/
abbrev s_law_known : Stmt := top 39
def d_law_known : DS := (dSeq (dPar2 0 1 (dTup (dCons (dC (.str ("+a" : Str))) (dCons (dC (.str ("-a" : Str))) (dCons (dC (.str ("+b" : Str))) (dCons (dC (.str ("-b" : Str))) dNil))))) (dTup (dCons (dC (.str ("." : Str))) (dCons (dC (.str ("+a" : Str))) (dCons (dC (.str ("-a" : Str))) dNil)))))
    (dRet (dTup (dCons (dV 0) (dCons (dV 1) (dCons (dTup (dCons (dC (.str ("+a" : Str))) (dCons (dC (.str ("+b" : Str))) (dCons (dC (.str ("-a" : Str))) (dCons (dC (.str ("-b" : Str))) dNil))))) (dCons (dTup (dCons (dC (.str ("+b" : Str))) (dCons (dC (.str ("+a" : Str))) (dCons (dC (.str ("-b" : Str))) (dCons (dC (.str ("-a" : Str))) dNil))))) dNil)))))))
def F_law_known (ds : List PyData) : Option FR := if ds.length = 0 then bodyF 2 (d_law_known) ds else none
theorem noexc_law_known : ∀ ds c, F_law_known ds ≠ some (.exc c) := noexc0 (by decide +kernel)
theorem sc_law_known : FnScope [("one" : Str), ("two" : Str)] [] (defScope s_law_known) := ⟨rfl, rfl, rfl, by decide +kernel, rfl, by decide +kernel, by decide +kernel⟩
theorem fd_law_known  {f : Addr} (h : DefAt K mg ("_law_known" : Str) s_law_known f) : Fd P w K mg base cv 1 ("_law_known" : Str) F_law_known := by
  obtain ⟨⟨fd, Fn⟩, hm⟩ := h
  exact fd_of (k := 0) (cv := cv) (δ := (d_law_known)) Fn sc_law_known hm (Fn.binds (ps := []) fun _ _ _ _ _ _ us hl => match us, hl with | [], _ => rfl) (fun cdv hcd A outer s H E hr => (ds_cons (ds_parT2 rfl sc_law_known.nd (by decide) (de_tup (da_cons de_str (da_cons de_str (da_cons de_str (da_cons de_str da_nil))))) (de_tup (da_cons de_str (da_cons de_str (da_cons de_str da_nil)))) (gs := (pgs_cons (pg_name sc_law_known.nd rfl (by first | exact Or.inl rfl | exact Or.inr rfl)) (pgs_cons (pg_name sc_law_known.nd rfl (by first | exact Or.inl rfl | exact Or.inr rfl)) pgs_nil))))
    (ds_one (ds_ret (de_tup (da_cons (de_var 0) (da_cons (de_var 1) (da_cons (de_tup (da_cons de_str (da_cons de_str (da_cons de_str (da_cons de_str da_nil))))) (da_cons (de_tup (da_cons de_str (da_cons de_str (da_cons de_str (da_cons de_str da_nil))))) da_nil))))))))) (fun ds r q => (ite_inv q).1) (fun ds r q => (ite_inv q).2)
/-! ### _law_bad_programs -/
abbrev s_law_bad_programs : Stmt := top 41
def d_law_bad_programs : DS := (dSeq (dSet 0 (dLst (dCons (dC .none) (dCons (dLst (dCons (dC (.str ("." : Str))) dNil)) (dCons (dTup (dCons (dC (.str ("+a" : Str))) dNil)) (dCons (dTup (dCons (dC (.str ("-a" : Str))) dNil)) (dCons (dTup (dCons (dC (.str ("+a" : Str))) (dCons (dC (.str ("+a" : Str))) (dCons (dC (.str ("-a" : Str))) dNil)))) (dCons (dTup (dCons (dC (.str ("+a" : Str))) (dCons (dC (.str ("=a" : Str))) (dCons (dC (.str ("-a" : Str))) dNil)))) (dCons (dTup (dCons (dC (.str ("+g" : Str))) (dCons (dC (.str ("-g" : Str))) dNil))) (dCons (dBin repTP (dTup (dCons (dC (.str ("." : Str))) dNil)) (dC (.int 17))) dNil))))))))))
    (dRet (dBin addP (dV 0) (dLst (dCons (dTup (dCons (dC (.str ("a" : Str))) dNil)) (dCons (dTup (dCons (dC (.str ("+a" : Str))) (dCons (dC (.str ("-a" : Str))) (dCons (dC (.str ("-a" : Str))) dNil)))) (dCons (dC (.str ("+a -a" : Str))) (dCons (dTup (dCons (dC .none) dNil)) (dCons (dTup (dCons (dC (.str ("" : Str))) dNil)) (dCons (dTup (dCons (dC (.str ("+A" : Str))) (dCons (dC (.str ("-A" : Str))) dNil))) (dCons (dTup (dCons (dC (.str ("+ab" : Str))) (dCons (dC (.str ("-ab" : Str))) dNil))) (dCons (dTup (dCons (dC (.str ("." : Str))) (dCons (dC (.str (".." : Str))) dNil))) (dCons (dC (.int 1)) dNil)))))))))))))
def F_law_bad_programs (ds : List PyData) : Option FR := if ds.length = 0 then bodyF 1 (d_law_bad_programs) ds else none
theorem noexc_law_bad_programs : ∀ ds c, F_law_bad_programs ds ≠ some (.exc c) := noexc0 (by decide +kernel)
theorem sc_law_bad_programs : FnScope [("some" : Str)] [] (defScope s_law_bad_programs) := ⟨rfl, rfl, rfl, by decide +kernel, rfl, by decide +kernel, by decide +kernel⟩
theorem fd_law_bad_programs  {f : Addr} (h : DefAt K mg ("_law_bad_programs" : Str) s_law_bad_programs f) : Fd P w K mg base cv 1 ("_law_bad_programs" : Str) F_law_bad_programs := by
  obtain ⟨⟨fd, Fn⟩, hm⟩ := h
  exact fd_of (k := 0) (cv := cv) (δ := (d_law_bad_programs)) Fn sc_law_bad_programs hm (Fn.binds (ps := []) fun _ _ _ _ _ _ us hl => match us, hl with | [], _ => rfl) (fun cdv hcd A outer s H E hr => (ds_cons (ds_set (de_lst (da_cons de_non (da_cons (de_lst (da_cons de_str da_nil)) (da_cons (de_tup (da_cons de_str da_nil)) (da_cons (de_tup (da_cons de_str da_nil)) (da_cons (de_tup (da_cons de_str (da_cons de_str (da_cons de_str da_nil)))) (da_cons (de_tup (da_cons de_str (da_cons de_str (da_cons de_str da_nil)))) (da_cons (de_tup (da_cons de_str (da_cons de_str da_nil))) (da_cons (de_op od_repT (de_tup (da_cons de_str da_nil)) de_int) da_nil))))))))) sc_law_bad_programs.nd)
    (ds_one (ds_ret (de_op od_add (de_var 0) (de_lst (da_cons (de_tup (da_cons de_str da_nil)) (da_cons (de_tup (da_cons de_str (da_cons de_str (da_cons de_str da_nil)))) (da_cons de_str (da_cons (de_tup (da_cons de_non da_nil)) (da_cons (de_tup (da_cons de_str da_nil)) (da_cons (de_tup (da_cons de_str (da_cons de_str da_nil))) (da_cons (de_tup (da_cons de_str (da_cons de_str da_nil))) (da_cons (de_tup (da_cons de_str (da_cons de_str da_nil))) (da_cons de_int da_nil))))))))))))))) (fun ds r q => (ite_inv q).1) (fun ds r q => (ite_inv q).2)
/-! ### _law_all_refused -/
abbrev s_law_all_refused : Stmt := top 40
def d_law_all_refused (fV : Addr) (FV : List PyData → Option FR) : DS := (dRet (dBin eqP (dLc (iSeq (dV 1)) (gN 3) (dTest (dBin neP (dErr "" nmc (dCallV 0 fV FV (dCons (dV 3) dNil))) (dV 2))) (dV 3) [3]) (dLst dNil)))
def F_law_all_refused (fV : Addr) (FV : List PyData → Option FR) (ds : List PyData) : Option DV := if ds.length + 1 = 3 then bodyV 4 fV (d_law_all_refused fV FV) ds else none
theorem sc_law_all_refused : FnScope [("call" : Str), ("odds" : Str), ("name" : Str), ("odd" : Str)] [("call" : Str), ("odds" : Str), ("name" : Str)] (defScope s_law_all_refused) := ⟨rfl, rfl, rfl, by decide +kernel, rfl, by decide +kernel, by decide +kernel⟩
theorem fd_law_all_refused {f_law_error : Addr} (a_law_error : DefAt K mg ("_law_error" : Str) s_law_error f_law_error) {c P0 aN CS : Addr} {nm : Nat → Nat → Str} (L : LamEnv P w K mg base cv nmc aN CS) (TB : TabB base mg c P0) (hmT : (P0, nm) ∈ Tbl.T) (hu : ∀ p ∈ Tbl.T, p.1 = P0 → p.2 = nm) (hnm : nm = fun _ _ => ("_law_all_refused.<locals>.<lambda>" : Str)) {fV : Addr} {FV : List PyData → Option FR} (hV : FdAt P w K mg base cv 4 fV FV) {f : Addr} (h : DefC K mg ("_law_all_refused" : Str) s_law_all_refused f c) : FdV P w K mg base 8 ("_law_all_refused" : Str) fV (F_law_all_refused fV FV) := by
  subst hnm
  obtain ⟨⟨fd, Fn, hfc⟩, hm⟩ := h
  exact fdV_of (k := 7) (cv := cv) (δ := (d_law_all_refused fV FV)) Fn sc_law_all_refused hm (Fn.binds (ps := [("call" : Str), ("odds" : Str), ("name" : Str)]) fun _ _ _ _ _ _ us hl => match us, hl with | [_, _, _], _ => rfl) (fun cdv hcd A outer s H E hr => (ds_one (ds_ret (de_cmp (od_eq (room64 hr)) (de_lc (own := [(("odd" : Str), 3)]) rfl sc_law_all_refused.nd (di_list (de_var 1)) (blk_by (by first | kernel_rfl | rfl)) (fun s H C cl fp => (pg_name sc_law_all_refused.nd rfl (by first | exact Or.inl rfl | exact Or.inr rfl))) (cg_name (by decide)) (fun s H C cl fp => (dts_one (dt_cmp (od_ne (room64 hr)) (de_err a_law_error L.told L.gE L.gN L.kN (by decide) hr TB (hcd.symm.trans hfc) hmT hu rfl (fun A outer s H E f c2 hr2 => (de_callV (hV.mono (by decide)) hr2 takes_lam (da_cons (de_var 3) da_nil) (de_pv 0)))) (de_var 2)))) (fun s H C cl fp => (de_var 3))) (de_lst da_nil))))) (fun ds r q => (ite_inv q).1) (fun ds r q => (ite_inv q).2)
/-! ### law -/
abbrev s_law : Stmt := top 42
def d_law (f_program_text : Addr) : DS := (dSeq (dFor (iRange1 (dB maxP (dCons (dC (.int 5)) (dCons (dB minP (dCons (dC (.int 11)) (dCons (dB lenP (dCons (dV 0) dNil)) dNil))) dNil)))) (gN 1) (dSeq (dSet 2 (dCall F_law_vat (dCons (dV 0) (dCons (dV 1) dNil))))
    (dSeq (dSet 3 (dCallM F_law_program 2 (dCons (dC (.int 16)) (dCons (dC (.str ("abcdef" : Str))) dNil))))
    (dSeq (dSet 4 (dIf (dTest (dBin neP (dV 3) (dTup dNil))) (dM1 joinP (dC (.str (" " : Str))) (dV 3)) (dC (.str ("nothing" : Str)))))
    (dSeq (dIfS (dOrT (dTest (dBin neP (dCall F_program_text (dCons (dV 3) dNil)) (dV 4))) (dTest (dBin neP (dCall F_read_program (dCons (dV 4) dNil)) (dV 3)))) (dRet (dC (.bool false))) dNext)
    (dSeq (dFor (iRange1 (dC (.int 14))) (gN 5) (dSeq (dPar2 6 7 (dCallM F_law_under 2 (dCons (dBin addP (dB lenP (dCons (dV 4) dNil)) (dC (.int 1))) dNil)) (dM1 splitP (dV 4) (dC (.str (" " : Str)))))
    (dSeq (dSet 8 (dCallM F_law_some 2 (dCons (dLst (dCons (dC (.str (" " : Str))) (dCons (dC (.str ("+" : Str))) (dCons (dC (.str ("a" : Str))) (dCons (dC (.str ("-b" : Str))) (dCons (dC (.str (" ." : Str))) (dCons (dC (.str ("=" : Str))) (dCons (dC (.str ("\n" : Str))) (dCons (dC (.str ("nothing" : Str))) (dCons (dC (.str ("." : Str))) dNil)))))))))) dNil)))
    (dSeq (dSet 9 (dCallM F_law_under 2 (dCons (dB lenP (dCons (dV 7) dNil)) dNil)))
    (dSeq (dSet 10 (dLst (dCons (dBin addP (dBin addP (dSl (dV 4) pNone (pSome (dV 6))) (dV 8)) (dSl (dV 4) (pSome (dV 6)) pNone)) (dCons (dBin addP (dSl (dV 4) pNone (pSome (dV 6))) (dSl (dV 4) (pSome (dBin addP (dV 6) (dC (.int 1)))) pNone)) (dCons (dM1 joinP (dC (.str (" " : Str))) (dBin addP (dSl (dV 7) pNone (pSome (dV 9))) (dSl (dV 7) (pSome (dBin addP (dV 9) (dC (.int 1)))) pNone))) dNil)))))
    (dSeq (dSet 11 (dCallM F_law_some 2 (dCons (dBin addP (dV 10) (dLst (dCons (dM1 joinP (dC (.str (" " : Str))) (dBin addP (dBin addP (dSl (dV 7) pNone (pSome (dV 9))) (dLst (dCons (dV 8) dNil))) (dSl (dV 7) (pSome (dBin addP (dV 9) (dC (.int 1)))) pNone))) (dCons (dBin addP (dV 4) (dC (.str (" ." : Str)))) dNil)))) dNil)))
    (dSeq (dSet 12 (dIf (dTest (dBin eqP (dV 11) (dC (.str ("nothing" : Str))))) (dTup dNil) (dB tupleP (dCons (dM1 splitP (dV 11) (dC (.str (" " : Str)))) dNil))))
    (dSeq (dSet 12 (dIf (dTest (dCall F_law_is_program (dCons (dV 12) dNil))) (dTup (dCons (dV 12) (dCons (dC (.str ("" : Str))) dNil))) (dTup (dCons (dC .none) (dCons (dC (.str ("text value" : Str))) dNil)))))
    (dIfS (dTest (dBin neP (dTold "" nmc (dCall F_read_program (dCons (dV 11) dNil))) (dV 12))) (dRet (dC (.bool false))) dNext)))))))))
    (dSeq (dFor (iSeq (dLst (dCons (dC .none) (dCons (dC (.int 5)) (dCons (dC (.str ("" : Str))) (dCons (dC (.str (" " : Str))) (dCons (dBin addP (dV 4) (dC (.str (" " : Str)))) (dCons (dBin addP (dC (.str (" " : Str))) (dV 4)) (dCons (dTup (dCons (dV 4) dNil)) (dCons (dBin addP (dV 4) (dC (.str ("\n" : Str)))) (dCons (dC (.str ("+a" : Str))) (dCons (dC (.str ("nothing ." : Str))) dNil)))))))))))) (gN 13) (dIfS (dTest (dBin neP (dErr "" nmc (dCall F_read_program (dCons (dV 13) dNil))) (dC (.str ("text value" : Str))))) (dRet (dC (.bool false))) dNext))
    (dIfS (dNotT (dTest (dCallFV (F_law_all_refused f_program_text F_program_text) (dCons (dCall F_law_bad_programs dNil) (dCons (dC (.str ("program value" : Str))) dNil))))) (dRet (dC (.bool false))) dNext))))))))
    (dSeq (dAsg (gT [(gN 14), (gN 15), (gN 16), (gN 17)]) (dCall F_law_known dNil))
    (dSeq (dIfS (dOrT (dTest (dBin neP (dCall F_program_text (dCons (dV 16) dNil)) (dC (.str ("+a +b -a -b" : Str))))) (dOrT (dTest (dBin neP (dCall F_program_text (dCons (dTup dNil) dNil)) (dC (.str ("nothing" : Str))))) (dTest (dBin neP (dCall F_read_program (dCons (dC (.str ("nothing" : Str))) dNil)) (dTup dNil))))) (dRet (dC (.bool false))) dNext)
    (dRet (dAndV (dBin eqP (dCall F_read_program (dCons (dC (.str ("=a . -a" : Str))) dNil)) (dTup (dCons (dC (.str ("=a" : Str))) (dCons (dC (.str ("." : Str))) (dCons (dC (.str ("-a" : Str))) dNil))))) (dAndV (dBin eqP (dCall F_read_program (dCons (dCall F_program_text (dCons (dV 17) dNil)) dNil)) (dV 17)) (dBin eqP (dCall F_read_program (dCons (dC (.str ("." : Str))) dNil)) (dTup (dCons (dC (.str ("." : Str))) dNil)))))))))
def F_law (f_program_text : Addr) (ds : List PyData) : Option FR := if ds.length = 1 then bodyF 18 (d_law f_program_text) ds else none
theorem sc_law : FnScope [("script" : Str), ("k" : Str), ("vat" : Str), ("one" : Str), ("text" : Str), ("turn" : Str), ("at" : Str), ("words" : Str), ("sign" : Str), ("spot" : Str), ("some" : Str), ("bent" : Str), ("due" : Str), ("odd" : Str), ("p" : Str), ("w" : Str), ("u" : Str), ("v" : Str)] [("script" : Str)] (defScope s_law) := ⟨rfl, rfl, rfl, by decide +kernel, rfl, by decide +kernel, by decide +kernel⟩
theorem fn_law (hB : Bn mg) {f_program_text : Addr} (a_program_text : DefAt K mg ("program_text" : Str) s_program_text f_program_text) (u_law_all_refused : FdV P w K mg base 8 ("_law_all_refused" : Str) f_program_text (F_law_all_refused f_program_text F_program_text)) (u_law_bad_programs : Fd P w K mg base cv 1 ("_law_bad_programs" : Str) F_law_bad_programs) {f_law_error : Addr} (a_law_error : DefAt K mg ("_law_error" : Str) s_law_error f_law_error) (u_law_is_program : Fd P w K mg base cv 2 ("_law_is_program" : Str) F_law_is_program) (u_law_known : Fd P w K mg base cv 1 ("_law_known" : Str) F_law_known) (u_law_program : FdM P w K mg base 3 ("_law_program" : Str) F_law_program) (u_law_some : FdM P w K mg base 2 ("_law_some" : Str) F_law_some) {f_law_told : Addr} (a_law_told : DefAt K mg ("_law_told" : Str) s_law_told f_law_told) (u_law_under : FdM P w K mg base 1 ("_law_under" : Str) F_law_under) (u_law_vat : Fd P w K mg base cv 1 ("_law_vat" : Str) F_law_vat) (u_program_text : Fd P w K mg base cv 4 ("program_text" : Str) F_program_text) (u_read_program : Fd P w K mg base cv 4 ("read_program" : Str) F_read_program) {c P0 aN CS : Addr} {nm : Nat → Nat → Str} (L : LamEnv P w K mg base cv nmc aN CS) (TB : TabB base mg c P0) (hmT : (P0, nm) ∈ Tbl.T) (hu : ∀ p ∈ Tbl.T, p.1 = P0 → p.2 = nm) (hnm : nm = fun _ _ => ("law.<locals>.<lambda>" : Str)) {f : Addr} {fd : FuncData} (Fn : Fun K "law" "law" s_law f fd) (hfc : fd.code = .ref c) : FnOk P w K mg base (L2N.CX P w) 10 f fd [("script" : Str)] (spD K cv (F_law f_program_text)) := by
  subst hnm
  exact fnok_of (k := 9) (cv := cv) (δ := (d_law f_program_text)) Fn sc_law (fun cdv hcd A outer s H E hr => (ds_cons (ds_for PassesOwn.leaving rfl (di_range1 hB.range_ (de_B (cd_max rfl) hB.max (by decide +kernel) (da_cons de_int (da_cons (de_B (cd_min rfl) hB.min (by decide +kernel) (da_cons de_int (da_cons (de_B cd_len hB.len (by decide +kernel) (da_cons (de_var 0) da_nil)) da_nil))) da_nil)))) (dg_name sc_law.nd) (ds_cons (ds_set (de_call (u_law_vat.mono (by decide)) hr (L2N.takes_of rfl rfl rfl rfl) (da_cons (de_var 0) (da_cons (de_var 1) da_nil))) sc_law.nd)
    (ds_cons (ds_set (de_callM (u_law_program.mono (by decide)) hr (de_var 2) (da_cons de_int (da_cons de_str da_nil))) sc_law.nd)
    (ds_cons (ds_set (de_if (dt_cmp (od_ne (room64 hr)) (de_var 3) (de_tup da_nil)) (de_m1 PySem.F.slot_str_join PySem.F.type_str_join md_join de_str (de_var 3)) de_str) sc_law.nd)
    (ds_cons (ds_if (dt_w (dw_or (dt_cmp (od_ne (room64 hr)) (de_call (u_program_text.mono (by decide)) hr (L2N.takes_of rfl rfl rfl rfl) (da_cons (de_var 3) da_nil)) (de_var 4)) (dw_or1 (dt_cmp (od_ne (room64 hr)) (de_call (u_read_program.mono (by decide)) hr (L2N.takes_of rfl rfl rfl rfl) (da_cons (de_var 4) da_nil)) (de_var 3))))) (ds_one (ds_ret de_bl)) ds_nil)
    (ds_cons (ds_for PassesOwn.leaving rfl (di_range1 hB.range_ de_int) (dg_name sc_law.nd) (ds_cons (ds_par2 rfl sc_law.nd (by decide) (de_callM (u_law_under.mono (by decide)) hr (de_var 2) (da_cons (de_op od_add (de_B cd_len hB.len (by decide +kernel) (da_cons (de_var 4) da_nil)) de_int) da_nil)) (de_m1 PySem.F.slot_str_split PySem.F.type_str_split md_split (de_var 4) de_str))
    (ds_cons (ds_set (de_callM (u_law_some.mono (by decide)) hr (de_var 2) (da_cons (de_lst (da_cons de_str (da_cons de_str (da_cons de_str (da_cons de_str (da_cons de_str (da_cons de_str (da_cons de_str (da_cons de_str (da_cons de_str da_nil)))))))))) da_nil)) sc_law.nd)
    (ds_cons (ds_set (de_callM (u_law_under.mono (by decide)) hr (de_var 2) (da_cons (de_B cd_len hB.len (by decide +kernel) (da_cons (de_var 7) da_nil)) da_nil)) sc_law.nd)
    (ds_cons (ds_set (de_lst (da_cons (de_op od_add (de_op od_add (de_sl (de_var 4) dp_none (dp_some (de_var 6))) (de_var 8)) (de_sl (de_var 4) (dp_some (de_var 6)) dp_none)) (da_cons (de_op od_add (de_sl (de_var 4) dp_none (dp_some (de_var 6))) (de_sl (de_var 4) (dp_some (de_op od_add (de_var 6) de_int)) dp_none)) (da_cons (de_m1 PySem.F.slot_str_join PySem.F.type_str_join md_join de_str (de_op od_add (de_sl (de_var 7) dp_none (dp_some (de_var 9))) (de_sl (de_var 7) (dp_some (de_op od_add (de_var 9) de_int)) dp_none))) da_nil)))) sc_law.nd)
    (ds_cons (ds_set (de_callM (u_law_some.mono (by decide)) hr (de_var 2) (da_cons (de_op od_add (de_var 10) (de_lst (da_cons (de_m1 PySem.F.slot_str_join PySem.F.type_str_join md_join de_str (de_op od_add (de_op od_add (de_sl (de_var 7) dp_none (dp_some (de_var 9))) (de_lst (da_cons (de_var 8) da_nil))) (de_sl (de_var 7) (dp_some (de_op od_add (de_var 9) de_int)) dp_none))) (da_cons (de_op od_add (de_var 4) de_str) da_nil)))) da_nil)) sc_law.nd)
    (ds_cons (ds_set (de_if (dt_cmp (od_eq (room64 hr)) (de_var 11) de_str) (de_tup da_nil) (de_Ty cd_tuple hB.tuple_ (by decide +kernel) (da_cons (de_m1 PySem.F.slot_str_split PySem.F.type_str_split md_split (de_var 11) de_str) da_nil))) sc_law.nd)
    (ds_cons (ds_set (de_if (dt_of (de_call (u_law_is_program.mono (by decide)) hr (L2N.takes_of rfl rfl rfl rfl) (da_cons (de_var 12) da_nil))) (de_tup (da_cons (de_var 12) (da_cons de_str da_nil))) (de_tup (da_cons de_non (da_cons de_str da_nil)))) sc_law.nd)
    (ds_one (ds_if (dt_cmp (od_ne (room64 hr)) (de_told a_law_told L.told L.gE L.gN L.kN (by decide) hr TB (hcd.symm.trans hfc) hmT hu rfl (fun A outer s H E f c2 hr2 => (de_call (u_read_program.mono (by decide)) hr2 takes_lam (da_cons (de_var 11) da_nil)))) (de_var 12)) (ds_one (ds_ret de_bl)) ds_nil))))))))))
    (ds_cons (ds_for PassesOwn.leaving rfl (di_list (de_lst (da_cons de_non (da_cons de_int (da_cons de_str (da_cons de_str (da_cons (de_op od_add (de_var 4) de_str) (da_cons (de_op od_add de_str (de_var 4)) (da_cons (de_tup (da_cons (de_var 4) da_nil)) (da_cons (de_op od_add (de_var 4) de_str) (da_cons de_str (da_cons de_str da_nil)))))))))))) (dg_name sc_law.nd) (ds_one (ds_if (dt_cmp (od_ne (room64 hr)) (de_err a_law_error L.told L.gE L.gN L.kN (by decide) hr TB (hcd.symm.trans hfc) hmT hu rfl (fun A outer s H E f c2 hr2 => (de_call (u_read_program.mono (by decide)) hr2 takes_lam (da_cons (de_var 13) da_nil)))) de_str) (ds_one (ds_ret de_bl)) ds_nil)))
    (ds_one (ds_if (dt_not (dt_of (de_callFV (u_law_all_refused.mono (by decide)) hr a_program_text.gl (da_cons (de_call0 (u_law_bad_programs.mono (by decide)) hr takesW0 noexc_law_bad_programs) (da_cons de_str da_nil))))) (ds_one (ds_ret de_bl)) ds_nil)))))))))
    (ds_cons (ds_asg (de_call0 (u_law_known.mono (by decide)) hr takesW0 noexc_law_known) (dg_tup rfl (dgs_cons (dg_name sc_law.nd) (dgs_cons (dg_name sc_law.nd) (dgs_cons (dg_name sc_law.nd) (dgs_cons (dg_name sc_law.nd) dgs_nil))))))
    (ds_cons (ds_if (dt_w (dw_or (dt_cmp (od_ne (room64 hr)) (de_call (u_program_text.mono (by decide)) hr (L2N.takes_of rfl rfl rfl rfl) (da_cons (de_var 16) da_nil)) de_str) (dw_or (dt_cmp (od_ne (room64 hr)) (de_call (u_program_text.mono (by decide)) hr (L2N.takes_of rfl rfl rfl rfl) (da_cons (de_tup da_nil) da_nil)) de_str) (dw_or1 (dt_cmp (od_ne (room64 hr)) (de_call (u_read_program.mono (by decide)) hr (L2N.takes_of rfl rfl rfl rfl) (da_cons de_str da_nil)) (de_tup da_nil)))))) (ds_one (ds_ret de_bl)) ds_nil)
    (ds_one (ds_ret (de_and (de_cmp (od_eq (room64 hr)) (de_call (u_read_program.mono (by decide)) hr (L2N.takes_of rfl rfl rfl rfl) (da_cons de_str da_nil)) (de_tup (da_cons de_str (da_cons de_str (da_cons de_str da_nil))))) (de_and (de_cmp (od_eq (room64 hr)) (de_call (u_read_program.mono (by decide)) hr (L2N.takes_of rfl rfl rfl rfl) (da_cons (de_call (u_program_text.mono (by decide)) hr (L2N.takes_of rfl rfl rfl rfl) (da_cons (de_var 17) da_nil)) da_nil)) (de_var 17)) (de_one (de_cmp (od_eq (room64 hr)) (de_call (u_read_program.mono (by decide)) hr (L2N.takes_of rfl rfl rfl rfl) (da_cons de_str da_nil)) (de_tup (da_cons de_str da_nil)))))))))))) (fun ds r q => (ite_inv q).1) (fun ds r q => (ite_inv q).2)
end
end G
end

section
set_option Elab.async false
set_option linter.all false
set_option maxRecDepth 100000
set_option maxHeartbeats 1000000
namespace G
open PySem PySem.Spec PyProof.Rows L2 DL DH
open LamX (TabB)
variable [Tbl]
section
variable {P : Program} {w : World} {K : PySem.W.Frag} {mg : Str → Option Value} {base : Heap} {cv : Str → Value}
/-! ### _law_names (printed by gennames.py) -/
abbrev s_law_names : Stmt := top 36
def d_law_names (b0 b1 b2 b3 b4 b5 b6 b7 b8 b9 b10 b11 b12 b13 b14 b15 : Bool) (a : Addr) : DS := (dSeq (dSet 1 (dLst (dCons (dIsE 0 a b0) (dCons (dIsE 0 a b1) (dCons (dIsE 0 a b2) (dCons (dIsE 0 a b3) (dCons (dIsE 0 a b4) (dCons (dIsE 0 a b5) (dCons (dIsE 0 a b6) (dCons (dIsE 0 a b7) (dCons (dIsE 0 a b8) (dCons (dIsE 0 a b9) (dCons (dIsE 0 a b10) (dCons (dIsE 0 a b11) (dCons (dIsE 0 a b12) (dCons (dIsE 0 a b13) (dCons (dIsE 0 a b14) (dCons (dIsE 0 a b15) dNil)))))))))))))))))) (dSeq (dSet 2 (dC (.str ("program standing weaving number paper move pair thing beginning text ended blocked unlike" : Str)))) (dSeq (dSet 2 (dBin addP (dV 2) (dC (.str (" undo many value" : Str))))) (dRet (dM1 joinP (dC (.str (" " : Str))) (dPick (dCons (dM1 splitP (dV 2) (dC (.str (" " : Str)))) (dCons (dV 1) dNil))))))))
theorem sc_law_names : FnScope [("e" : Str), ("some" : Str), ("labels" : Str), ("word" : Str), ("good" : Str)] [("e" : Str)] (defScope s_law_names) := ⟨rfl, rfl, rfl, by decide +kernel, rfl, by decide +kernel, by decide +kernel⟩
/-- the classes that _law_names asks for, and what isinstance says of the class D -/
structure KitAt (K : PySem.W.Frag) (mg : Str → Option Value) (x : Str) (D : Addr) (b : Bool) : Prop where
  ex : ∃ C, mg x = some (.ref C) ∧ PySem.W.kitOne K (.ref D) (.ref C) = some b
theorem de_kit {X : Cx} {cv : Str → Value} {W : WX} {i : Nat} {a D : Addr} {oe : Obj} {x en : Str} {b : Bool} {p p1 p2 pos : Pos} (C : ExcC X.K D) (hp : (a, oe) ∈ X.pn) (hz : Zc (.ref D) none oe) (hf : ∃ vs, oe.data = .fields vs) (h : KitAt X.K X.mg x D b) (hm : X.mg "isinstance" = none) (hv : PE X (.Name en p1) (tVar i)) (hg : Gl X "isinstance" := by rfl) (hgx : Gl X x := by rfl) (hd : (x == ("__debug__" : Str)) = false := by decide)
    (he : starEach (.Name en p1 :: [.Name x p2]) X.env = (false, eval (.Name en p1) X.env) :: starEach [.Name x p2] X.env := by rfl) (he2 : starEach (.Name x p2 :: []) X.env = (false, eval (.Name x p2) X.env) :: starEach [] X.env := by rfl) (hpl : (backTo pos (starEach [.Name x p2] X.env)).any (·.1) = false := by rfl) :
    DEx X cv W (.Call (.Name "isinstance" p) [.Name en p1, .Name x p2] [] pos) (dIsE i a b) := by
  obtain ⟨c, h1, h2⟩ := h.ex
  exact de_isE (cV := .ref c) (cval := .ref c) C hp hz hf (pe_glob hgx h1 rfl hd) (fun u h => h) h2 hv hm hg he he2 hpl
theorem de_kitT {X : Cx} {cv : Str → Value} {W : WX} {i : Nat} {a D : Addr} {oe : Obj} {x en : Str} {T : String} {b : Bool} {p p1 p2 pos : Pos} (C : ExcC X.K D) (hp : (a, oe) ∈ X.pn) (hz : Zc (.ref D) none oe) (hf : ∃ vs, oe.data = .fields vs) (hmx : X.mg x = none) (hbx : bootBuiltins x = some (.type T)) (h : PySem.W.kitOne X.K (.ref D) (.type T) = some b) (hm : X.mg "isinstance" = none) (hv : PE X (.Name en p1) (tVar i)) (hg : Gl X "isinstance" := by rfl) (hgx : Gl X x := by rfl) (hn : x ≠ "__name__" := by decide) (hd : (x == ("__debug__" : Str)) = false := by decide)
    (he : starEach (.Name en p1 :: [.Name x p2]) X.env = (false, eval (.Name en p1) X.env) :: starEach [.Name x p2] X.env := by rfl) (he2 : starEach (.Name x p2 :: []) X.env = (false, eval (.Name x p2) X.env) :: starEach [] X.env := by rfl) (hpl : (backTo pos (starEach [.Name x p2] X.env)).any (·.1) = false := by rfl) :
    DEx X cv W (.Call (.Name "isinstance" p) [.Name en p1, .Name x p2] [] pos) (dIsE i a b) := de_isE (cV := .ty T) (cval := .type T) C hp hz hf (pe_bltn hgx hmx hbx rfl hn hd) (fun u h => h) h hv hm hg he he2 hpl
theorem names_law {b0 b1 b2 b3 b4 b5 b6 b7 b8 b9 b10 b11 b12 b13 b14 b15 : Bool} {D g : Addr} {z : Str} (hB : Bn mg) (hVE : mg "ValueError" = none) (C : ExcC K D) (k0 : KitAt K mg ("InvalidProgram" : Str) D b0) (k1 : KitAt K mg ("InvalidStanding" : Str) D b1) (k2 : KitAt K mg ("InvalidWeaving" : Str) D b2) (k3 : KitAt K mg ("InvalidNumber" : Str) D b3) (k4 : KitAt K mg ("InvalidPaper" : Str) D b4) (k5 : KitAt K mg ("InvalidMove" : Str) D b5) (k6 : KitAt K mg ("InvalidPair" : Str) D b6) (k7 : KitAt K mg ("InvalidThing" : Str) D b7) (k8 : KitAt K mg ("InvalidBeginning" : Str) D b8) (k9 : KitAt K mg ("InvalidText" : Str) D b9) (k10 : KitAt K mg ("Ended" : Str) D b10) (k11 : KitAt K mg ("Blocked" : Str) D b11) (k12 : KitAt K mg ("Unlike" : Str) D b12) (k13 : KitAt K mg ("NothingToUndo" : Str) D b13) (k14 : KitAt K mg ("TooMany" : Str) D b14) (k15 : PySem.W.kitOne K (.ref D) (.type "ValueError") = some b15) (h : DefAt K mg "_law_names" s_law_names g) (hδ : ∀ a, ∃ ρ', d_law_names b0 b1 b2 b3 b4 b5 b6 b7 b8 b9 b10 b11 b12 b13 b14 b15 a (some (.op a) :: List.replicate 4 none) = .ok (.rt (.sh (.str z))) ρ') : NamesOk P w K mg base 1 g D z := by
  obtain ⟨⟨fd, Fn⟩, hm⟩ := h
  refine names_of (cv := fun _ => .none) (k := 0) (δ := d_law_names b0 b1 b2 b3 b4 b5 b6 b7 b8 b9 b10 b11 b12 b13 b14 b15) Fn sc_law_names rfl (Fn.binds (ps := [("e" : Str)]) fun _ _ _ _ _ _ us hl => match us, hl with | [_], _ => rfl) (fun cdv A outer s H E p hot hz hf => ?_) hδ
  have hp : (p.1, p.2) ∈ [p] := List.mem_singleton.mpr rfl
  have hotc : L2H.HotC (L2H.cxH (L2N.CX P w) P w K mg base [("e" : Str), ("some" : Str), ("labels" : Str), ("word" : Str), ("good" : Str)] "_law_names" (defScope s_law_names) g cdv A outer s H E p) := ⟨p, ⟨hot.1, hot.2⟩, List.mem_singleton.mpr rfl⟩
  exact (ds_cons (ds_set (de_lst (da_cons (de_kit C hp hz hf k0 hB.isinstance (de_pv 0)) (da_cons (de_kit C hp hz hf k1 hB.isinstance (de_pv 0)) (da_cons (de_kit C hp hz hf k2 hB.isinstance (de_pv 0)) (da_cons (de_kit C hp hz hf k3 hB.isinstance (de_pv 0)) (da_cons (de_kit C hp hz hf k4 hB.isinstance (de_pv 0)) (da_cons (de_kit C hp hz hf k5 hB.isinstance (de_pv 0)) (da_cons (de_kit C hp hz hf k6 hB.isinstance (de_pv 0)) (da_cons (de_kit C hp hz hf k7 hB.isinstance (de_pv 0)) (da_cons (de_kit C hp hz hf k8 hB.isinstance (de_pv 0)) (da_cons (de_kit C hp hz hf k9 hB.isinstance (de_pv 0)) (da_cons (de_kit C hp hz hf k10 hB.isinstance (de_pv 0)) (da_cons (de_kit C hp hz hf k11 hB.isinstance (de_pv 0)) (da_cons (de_kit C hp hz hf k12 hB.isinstance (de_pv 0)) (da_cons (de_kit C hp hz hf k13 hB.isinstance (de_pv 0)) (da_cons (de_kit C hp hz hf k14 hB.isinstance (de_pv 0)) (da_cons (de_kitT C hp hz hf hVE (by decide +kernel) k15 hB.isinstance (de_pv 0)) da_nil))))))))))))))))) sc_law_names.nd) (ds_cons (ds_set de_str sc_law_names.nd) (ds_cons (ds_set (de_op od_add (de_var 2) de_str) sc_law_names.nd) (ds_one (ds_ret (de_m1 PySem.F.slot_str_join PySem.F.type_str_join md_join de_str (de_pick (iw := 3) (ig := 4) (own := [(("word" : Str), 3), (("good" : Str), 4)]) hotc sc_law_names.nd hB.zip (da_cons (de_m1 PySem.F.slot_str_split PySem.F.type_str_split md_split (de_var 2) de_str) (da_cons (de_var 1) da_nil)) (blk_by (by first | kernel_rfl | rfl)) rfl (by decide) (show (3 : Nat) < 5 from by decide) (show (4 : Nat) < 5 from by decide) (fun s H C cl fp => pgs_cons (pg_name sc_law_names.nd rfl (Or.inl rfl)) (pgs_cons (pg_name sc_law_names.nd rfl (Or.inl rfl)) pgs_nil)) (fun s H C cl fp => pts_one (pt_val (de_pv 4))) (fun s H C cl fp => de_pv 3))))))))
theorem dIsE_at {a : Addr} {b : Bool} {r : Rho} : dIsE 0 a b (some (.op a) :: r) = .ok (.sh (.bool b)) (some (.op a) :: r) := by
  show (if a = a then _ else _) = _
  rw [if_pos rfl]
theorem told_InvalidProgram (a : Addr) : ∃ ρ', d_law_names true false false false false false false false false false false false false false false true a (some (.op a) :: List.replicate 4 none) = .ok (.rt (.sh (.str ("program value" : Str)))) ρ' := by
  refine ⟨[some (.op a), some (.sh (.list [.bool true, .bool false, .bool false, .bool false, .bool false, .bool false, .bool false, .bool false, .bool false, .bool false, .bool false, .bool false, .bool false, .bool false, .bool false, .bool true])), some (.sh (.str ("program standing weaving number paper move pair thing beginning text ended blocked unlike undo many value" : Str))), none, none], ?_⟩
  simp only [d_law_names, dSeq, dSet, dLst, dCons, dIsE_at, R.bind_ok, dNil, keep]
  first | kernel_rfl | rfl
theorem told_InvalidText (a : Addr) : ∃ ρ', d_law_names false false false false false false false false false true false false false false false true a (some (.op a) :: List.replicate 4 none) = .ok (.rt (.sh (.str ("text value" : Str)))) ρ' := by
  refine ⟨[some (.op a), some (.sh (.list [.bool false, .bool false, .bool false, .bool false, .bool false, .bool false, .bool false, .bool false, .bool false, .bool true, .bool false, .bool false, .bool false, .bool false, .bool false, .bool true])), some (.sh (.str ("program standing weaving number paper move pair thing beginning text ended blocked unlike undo many value" : Str))), none, none], ?_⟩
  simp only [d_law_names, dSeq, dSet, dLst, dCons, dIsE_at, R.bind_ok, dNil, keep]
  first | kernel_rfl | rfl
end
end G
end

section
set_option Elab.async false
set_option linter.all false
set_option maxRecDepth 100000
set_option maxHeartbeats 1000000
/-! K10L: what the defs compute (plain Lean). -/
namespace G
open PySem PySem.Spec DL DH
theorem kb1 : L2.kitB "str" "str" = some true := by kernel_rfl
theorem kb2 : L2.kitB "NoneType" "str" = some false := by kernel_rfl
theorem kb3 : L2.kitB "bool" "str" = some false := by kernel_rfl
theorem kb4 : L2.kitB "int" "str" = some false := by kernel_rfl
theorem kb5 : L2.kitB "list" "str" = some false := by kernel_rfl
theorem kb6 : L2.kitB "tuple" "str" = some false := by kernel_rfl
theorem kb7 : L2.kitB "str" "tuple" = some false := by kernel_rfl
theorem kb8 : L2.kitB "NoneType" "tuple" = some false := by kernel_rfl
theorem kb9 : L2.kitB "bool" "tuple" = some false := by kernel_rfl
theorem kb10 : L2.kitB "int" "tuple" = some false := by kernel_rfl
theorem kb11 : L2.kitB "list" "tuple" = some false := by kernel_rfl
theorem kb12 : L2.kitB "tuple" "tuple" = some true := by kernel_rfl
theorem eqP_ss (a b : Str) : eqP (.str a) (.str b) = some (.sh (.bool (a == b))) := by
  unfold eqP
  simp only [scalP, Bool.true_or, if_true]
  first | rfl | simp [PyData.eqv]
theorem neP_ss (a b : Str) : neP (.str a) (.str b) = some (.sh (.bool (!(a == b)))) := by
  unfold neP
  simp only [scalP, Bool.true_or, if_true]
  first | rfl | simp [PyData.eqv]
theorem eqP_ii (a b : Int) : eqP (.int a) (.int b) = some (.sh (.bool (a == b))) := by
  unfold eqP
  simp only [scalP, Bool.true_or, if_true]
  first | rfl | simp [PyData.eqv]
theorem inP_1 (c : Nat) (z : Str) : inP (.str ⟨#[c]⟩) (.str z) = some (.sh (.bool (decide (c ∈ z.cps.toList)))) := rfl
theorem under_spec (a b m : Int) (hm : 0 < m) (hm2 : m < 1000) : ∃ a' b' r, F_law_under [.int a, .int b] [.int m] = some ([.int a', .int b'], .sh (.int r)) ∧ 0 ≤ r ∧ r < m := by
  have e1 : m ≠ 0 := by omega
  have e2 : m.natAbs < 1073741824 := by omega
  by_cases h : 0 < a
  · refine ⟨a.fdiv m, b, a.fmod m, ?_, Int.fmod_nonneg_of_pos a hm, Int.fmod_lt_of_pos a hm⟩
    simp [F_law_under, d_law_under, eqP_ss, neP_ss, eqP_ii, inP_1, Str.length, L2.atI, L2.ixN, bodyM2, bodyF, bodyV, entryM, entryR, entryV, muAt, lstAt, putL, dSeq, dIfS, dExpr, dRet, dSet, putV, dNext, dMut, dSetIx, dCallM, dCall, callR, dB, dSl, pSome, pNone, slP, cutD, ofO, peek, keep, coerce, coerceAll, peekAll, gN, dTest, dBin, dV, dC, dNil, dCons, dTup, dLst, dIf, dNotT, dAndT, dOrT, dNotV, dAndV, dOrV, dM1, dIsi, tyName, isDict, kb1, kb2, kb3, kb4, kb5, kb6, kb7, kb8, kb9, kb10, kb11, kb12, R.bind, addP, subP, mulP, fdivP, modP, powP, ltP, leP, gtP, geP, ixP, intP, absP, lenP, R.bind_ok, R.bind_bad, R.bind_exc, OC.data, plainR, noMut, noMut.go, List.getElem?_cons_zero, List.getElem?_cons_succ, List.set_cons_zero, List.set_cons_succ, List.replicate, h, e1, e2]
  · have v1 : 0 ≤ (b * 39373 + 101).fmod 2147483629 := Int.fmod_nonneg_of_pos _ (by decide)
    have v2 : (b * 39373 + 101).fmod 2147483629 < 2147483629 := Int.fmod_lt_of_pos _ (by decide)
    have v3 : ((b * 39373 + 101).fmod 2147483629).natAbs < 18446744073709551616 := by omega
    refine ⟨a, (b * 39373 + 101).fmod 2147483629, (((((b * 39373 + 101).fmod 2147483629) * (((b * 39373 + 101).fmod 2147483629).fdiv 5 + 9)).fmod 2147483587).fdiv 32).fmod m, ?_, Int.fmod_nonneg_of_pos _ hm, Int.fmod_lt_of_pos _ hm⟩
    simp [F_law_under, d_law_under, eqP_ss, neP_ss, eqP_ii, inP_1, Str.length, L2.atI, L2.ixN, bodyM2, bodyF, bodyV, entryM, entryR, entryV, muAt, lstAt, putL, dSeq, dIfS, dExpr, dRet, dSet, putV, dNext, dMut, dSetIx, dCallM, dCall, callR, dB, dSl, pSome, pNone, slP, cutD, ofO, peek, keep, coerce, coerceAll, peekAll, gN, dTest, dBin, dV, dC, dNil, dCons, dTup, dLst, dIf, dNotT, dAndT, dOrT, dNotV, dAndV, dOrV, dM1, dIsi, tyName, isDict, kb1, kb2, kb3, kb4, kb5, kb6, kb7, kb8, kb9, kb10, kb11, kb12, R.bind, addP, subP, mulP, fdivP, modP, powP, ltP, leP, gtP, geP, ixP, intP, absP, lenP, R.bind_ok, R.bind_bad, R.bind_exc, OC.data, plainR, noMut, noMut.go, List.getElem?_cons_zero, List.getElem?_cons_succ, List.set_cons_zero, List.set_cons_succ, List.replicate, h, e1, e2, v3]
end G
end

section
set_option Elab.async false
set_option linter.all false
set_option maxRecDepth 100000
set_option maxHeartbeats 1000000
set_option pp.maxSteps 600
namespace G
open PySem PySem.Spec DL DH
theorem some_list (a b : Int) (ds : List PyData) (h0 : ds ≠ []) (h1 : ds.length < 1000) : ∃ (a' b' : Int) (i : Nat) (d : PyData), ds[i]? = some d ∧ F_law_some [.int a, .int b] [.list ds] = some ([.int a', .int b'], .sh d) := by
  have hp : 0 < ds.length := List.length_pos_iff.mpr h0
  obtain ⟨a', b', r, e, r0, r1⟩ := under_spec a b ds.length (by omega) (by omega)
  have hr : r.toNat < ds.length := by omega
  refine ⟨a', b', r.toNat, ds[r.toNat], by simp [hr], ?_⟩
  simp [F_law_some, d_law_some, eqP_ss, neP_ss, eqP_ii, inP_1, Str.length, L2.atI, L2.ixN, bodyM2, bodyF, bodyV, entryM, entryR, entryV, muAt, lstAt, putL, dSeq, dIfS, dExpr, dRet, dSet, putV, dNext, dMut, dSetIx, dCallM, dCall, callR, dB, dSl, pSome, pNone, slP, cutD, ofO, peek, keep, coerce, coerceAll, peekAll, gN, dTest, dBin, dV, dC, dNil, dCons, dTup, dLst, dIf, dNotT, dAndT, dOrT, dNotV, dAndV, dOrV, dM1, dIsi, tyName, isDict, kb1, kb2, kb3, kb4, kb5, kb6, kb7, kb8, kb9, kb10, kb11, kb12, R.bind, addP, subP, mulP, fdivP, modP, powP, ltP, leP, gtP, geP, ixP, intP, absP, lenP, R.bind_ok, R.bind_bad, R.bind_exc, OC.data, plainR, noMut, noMut.go, List.getElem?_cons_zero, List.getElem?_cons_succ, List.set_cons_zero, List.set_cons_succ, List.replicate, e, r0, r1, hr]
def isStepL : List Nat → Bool
  | [c] => c == 46
  | [c, d] => (c == 43 || c == 61 || c == 45) && (97 ≤ d && d ≤ 102)
  | _ => false
theorem dot1 (c : Nat) : (({ cps := { toList := [c] } } : Str) = Str.ofString ".") = (c = 46) := by
  have e : Str.ofString "." = ({ cps := { toList := [46] } } : Str) := by kernel_rfl
  rw [e]
  simp
theorem dot2 (c d : Nat) (r : List Nat) : (({ cps := { toList := c :: d :: r } } : Str) = Str.ofString ".") = False := by
  have e : Str.ofString "." = ({ cps := { toList := [46] } } : Str) := by kernel_rfl
  rw [e]
  simp
theorem sg (c : Nat) : (c ∈ (Str.ofString "+=-").cps) = (c = 43 ∨ c = 61 ∨ c = 45) := by
  have e : (Str.ofString "+=-").cps = #[43, 61, 45] := by kernel_rfl
  rw [e]
  simp
theorem lt (c : Nat) : (c ∈ (Str.ofString "abcdef").cps) = (97 ≤ c ∧ c ≤ 102) := by
  have e : (Str.ofString "abcdef").cps = #[97, 98, 99, 100, 101, 102] := by kernel_rfl
  rw [e]
  apply propext
  simp
  omega
theorem is_step_str (l : List Nat) (hl : l.length ≤ 1000000) : F_is_step [.str ⟨⟨l⟩⟩] = some (.ok (.sh (.bool (isStepL l)))) := by
  match l with
  | [] => kernel_rfl
  | [c] =>
    simp [F_is_step, d_is_step, eqP_ss, neP_ss, eqP_ii, inP_1, Str.length, L2.atI, L2.ixN, bodyM2, bodyF, bodyV, entryM, entryR, entryV, muAt, lstAt, putL, dSeq, dIfS, dExpr, dRet, dSet, putV, dNext, dMut, dSetIx, dCallM, dCall, callR, dB, dSl, pSome, pNone, slP, cutD, ofO, peek, keep, coerce, coerceAll, peekAll, gN, dTest, dBin, dV, dC, dNil, dCons, dTup, dLst, dIf, dNotT, dAndT, dOrT, dNotV, dAndV, dOrV, dM1, dIsi, tyName, isDict, kb1, kb2, kb3, kb4, kb5, kb6, kb7, kb8, kb9, kb10, kb11, kb12, R.bind, addP, subP, mulP, fdivP, modP, powP, ltP, leP, gtP, geP, ixP, intP, absP, lenP, R.bind_ok, R.bind_bad, R.bind_exc, OC.data, plainR, noMut, noMut.go, List.getElem?_cons_zero, List.getElem?_cons_succ, List.set_cons_zero, List.set_cons_succ, List.replicate, isStepL, dot1]
    by_cases h : c = 46 <;> simp [h]
  | [c, d] =>
    simp [F_is_step, d_is_step, eqP_ss, neP_ss, eqP_ii, inP_1, Str.length, L2.atI, L2.ixN, bodyM2, bodyF, bodyV, entryM, entryR, entryV, muAt, lstAt, putL, dSeq, dIfS, dExpr, dRet, dSet, putV, dNext, dMut, dSetIx, dCallM, dCall, callR, dB, dSl, pSome, pNone, slP, cutD, ofO, peek, keep, coerce, coerceAll, peekAll, gN, dTest, dBin, dV, dC, dNil, dCons, dTup, dLst, dIf, dNotT, dAndT, dOrT, dNotV, dAndV, dOrV, dM1, dIsi, tyName, isDict, kb1, kb2, kb3, kb4, kb5, kb6, kb7, kb8, kb9, kb10, kb11, kb12, R.bind, addP, subP, mulP, fdivP, modP, powP, ltP, leP, gtP, geP, ixP, intP, absP, lenP, R.bind_ok, R.bind_bad, R.bind_exc, OC.data, plainR, noMut, noMut.go, List.getElem?_cons_zero, List.getElem?_cons_succ, List.set_cons_zero, List.set_cons_succ, List.replicate, isStepL, dot2, sg, lt]
    by_cases h : c = 43 ∨ c = 61 ∨ c = 45
    · rw [if_pos h]
      rcases h with h | h | h <;> simp [h]
    · rw [if_neg h]
      simp only [not_or] at h
      simp [h]
  | c :: d :: e :: r =>
    have h1 : r.length + 1 + 1 + 1 ≤ 1000000 := hl
    have h2 : (2 : Int) < (r.length : Int) + 1 + 1 + 1 := by omega
    simp [F_is_step, d_is_step, eqP_ss, neP_ss, eqP_ii, inP_1, Str.length, L2.atI, L2.ixN, bodyM2, bodyF, bodyV, entryM, entryR, entryV, muAt, lstAt, putL, dSeq, dIfS, dExpr, dRet, dSet, putV, dNext, dMut, dSetIx, dCallM, dCall, callR, dB, dSl, pSome, pNone, slP, cutD, ofO, peek, keep, coerce, coerceAll, peekAll, gN, dTest, dBin, dV, dC, dNil, dCons, dTup, dLst, dIf, dNotT, dAndT, dOrT, dNotV, dAndV, dOrV, dM1, dIsi, tyName, isDict, kb1, kb2, kb3, kb4, kb5, kb6, kb7, kb8, kb9, kb10, kb11, kb12, R.bind, addP, subP, mulP, fdivP, modP, powP, ltP, leP, gtP, geP, ixP, intP, absP, lenP, R.bind_ok, R.bind_bad, R.bind_exc, OC.data, plainR, noMut, noMut.go, List.getElem?_cons_zero, List.getElem?_cons_succ, List.set_cons_zero, List.set_cons_succ, List.replicate, isStepL, h1, h2]
theorem law_is_step_str (l : List Nat) (hl : l.length ≤ 1000000) : F_law_is_step [.str ⟨⟨l⟩⟩] = some (.ok (.sh (.bool (isStepL l)))) := by
  have e0 : ∀ (c : Nat) (r : List Nat), (({ cps := { toList := c :: r } } : Str) = Str.ofString "") = False := fun c r => by
    have e : Str.ofString "" = ({ cps := { toList := [] } } : Str) := by kernel_rfl
    rw [e]
    simp
  match l with
  | [] => kernel_rfl
  | [c] =>
    simp [F_law_is_step, d_law_is_step, eqP_ss, neP_ss, eqP_ii, inP_1, Str.length, L2.atI, L2.ixN, bodyM2, bodyF, bodyV, entryM, entryR, entryV, muAt, lstAt, putL, dSeq, dIfS, dExpr, dRet, dSet, putV, dNext, dMut, dSetIx, dCallM, dCall, callR, dB, dSl, pSome, pNone, slP, cutD, ofO, peek, keep, coerce, coerceAll, peekAll, gN, dTest, dBin, dV, dC, dNil, dCons, dTup, dLst, dIf, dNotT, dAndT, dOrT, dNotV, dAndV, dOrV, dM1, dIsi, tyName, isDict, kb1, kb2, kb3, kb4, kb5, kb6, kb7, kb8, kb9, kb10, kb11, kb12, R.bind, addP, subP, mulP, fdivP, modP, powP, ltP, leP, gtP, geP, ixP, intP, absP, lenP, R.bind_ok, R.bind_bad, R.bind_exc, OC.data, plainR, noMut, noMut.go, List.getElem?_cons_zero, List.getElem?_cons_succ, List.set_cons_zero, List.set_cons_succ, List.replicate, isStepL, dot1, e0]
    by_cases h : c = 46 <;> simp [h]
  | [c, d] =>
    simp [F_law_is_step, d_law_is_step, eqP_ss, neP_ss, eqP_ii, inP_1, Str.length, L2.atI, L2.ixN, bodyM2, bodyF, bodyV, entryM, entryR, entryV, muAt, lstAt, putL, dSeq, dIfS, dExpr, dRet, dSet, putV, dNext, dMut, dSetIx, dCallM, dCall, callR, dB, dSl, pSome, pNone, slP, cutD, ofO, peek, keep, coerce, coerceAll, peekAll, gN, dTest, dBin, dV, dC, dNil, dCons, dTup, dLst, dIf, dNotT, dAndT, dOrT, dNotV, dAndV, dOrV, dM1, dIsi, tyName, isDict, kb1, kb2, kb3, kb4, kb5, kb6, kb7, kb8, kb9, kb10, kb11, kb12, R.bind, addP, subP, mulP, fdivP, modP, powP, ltP, leP, gtP, geP, ixP, intP, absP, lenP, R.bind_ok, R.bind_bad, R.bind_exc, OC.data, plainR, noMut, noMut.go, List.getElem?_cons_zero, List.getElem?_cons_succ, List.set_cons_zero, List.set_cons_succ, List.replicate, isStepL, dot2, sg, lt, e0]
    by_cases h : c = 43 ∨ c = 61 ∨ c = 45
    · rw [if_pos h]
      rcases h with h | h | h <;> simp [h]
    · rw [if_neg h]
      simp only [not_or] at h
      simp [h]
  | c :: d :: e :: r =>
    have h1 : r.length + 1 + 1 + 1 ≤ 1000000 := hl
    have h2 : (2 : Int) < (r.length : Int) + 1 + 1 + 1 := by omega
    simp [F_law_is_step, d_law_is_step, eqP_ss, neP_ss, eqP_ii, inP_1, Str.length, L2.atI, L2.ixN, bodyM2, bodyF, bodyV, entryM, entryR, entryV, muAt, lstAt, putL, dSeq, dIfS, dExpr, dRet, dSet, putV, dNext, dMut, dSetIx, dCallM, dCall, callR, dB, dSl, pSome, pNone, slP, cutD, ofO, peek, keep, coerce, coerceAll, peekAll, gN, dTest, dBin, dV, dC, dNil, dCons, dTup, dLst, dIf, dNotT, dAndT, dOrT, dNotV, dAndV, dOrV, dM1, dIsi, tyName, isDict, kb1, kb2, kb3, kb4, kb5, kb6, kb7, kb8, kb9, kb10, kb11, kb12, R.bind, addP, subP, mulP, fdivP, modP, powP, ltP, leP, gtP, geP, ixP, intP, absP, lenP, R.bind_ok, R.bind_bad, R.bind_exc, OC.data, plainR, noMut, noMut.go, List.getElem?_cons_zero, List.getElem?_cons_succ, List.set_cons_zero, List.set_cons_succ, List.replicate, isStepL, h1, h2, e0]
/-! ### the comprehension of calls -/
theorem set_none {ρ : Rho} {i : Nat} (h : ρ[i]? = some none) (x : Option DV) : (ρ.set i x).set i none = ρ := by
  rw [List.set_set]
  apply List.ext_getElem?
  intro j
  by_cases hj : i = j
  · subst hj
    have hi : i < ρ.length := (List.getElem?_eq_some_iff.mp h).1
    rw [List.getElem?_set_self hi, h]
  · rw [List.getElem?_set_ne hj]
theorem lcD_call {F : List PyData → Option FR} {i : Nat} {ρ : Rho} (hw : ρ[i]? = some none) {r : PyData → Bool} : ∀ (ds acc : List PyData), (∀ d ∈ ds, F [d] = some (.ok (.sh (.bool (r d))))) → acc.length + ds.length ≤ 1000000 →
    lcD (gN i) dYes (dCall F (dCons (dV i) dNil)) [i] ds acc ρ = .ok (acc ++ ds.map fun d => .bool (r d)) ρ
  | [], acc, _, _ => by simp [lcD]
  | d :: ds, acc, h, hl => by
    have hi : i < ρ.length := (List.getElem?_eq_some_iff.mp hw).1
    have h1 := h d List.mem_cons_self
    have hl' : acc.length < 1000000 := by simp at hl; omega
    have ih := lcD_call hw ds (acc ++ [.bool (r d)]) (fun x hx => h x (List.mem_cons_of_mem _ hx)) (by simp at hl ⊢; omega)
    have e1 : (ρ.set i (some (DV.sh d)))[i]? = some (some (DV.sh d)) := List.getElem?_set_self hi
    unfold lcD
    simp [gN, putV, hi, dYes, dCall, dCons, dV, dNil, R.bind, e1, keep, callR, peekAll, peek, h1, plainR, noMut, coerce, hl', wipeR, set_none hw, ih]
theorem bools_map {α : Type} (r : α → Bool) : ∀ l : List α, bools (l.map fun d => .bool (r d)) = some (l.map r)
  | [] => rfl
  | a :: l => by simp [bools, bools_map r l]
/-! ### what a program's steps hold -/
def strD (l : List Nat) : PyData := .str ⟨⟨l⟩⟩
def lst (now : List Nat) : List PyData := now.map fun d => strD [d]
def run : List Nat → List (List Nat) → Option (List Nat)
  | now, [] => some now
  | now, [_] :: r => run now r
  | now, [c, d] :: r => if c = 45 then (if d ∈ now then run (now.erase d) r else none) else (if d ∈ now then none else run (now ++ [d]) r)
  | _, _ => none
theorem flat_lst : ∀ now : List Nat, (lst now).all flatP = true
  | [] => rfl
  | d :: r => by
    have ih := flat_lst r
    show (flatP (strD [d]) && (lst r).all flatP) = true
    rw [ih]
    rfl
theorem any_lst (d : Nat) : ∀ now : List Nat, ((lst now).any fun z => PyData.eqv z (strD [d])) = decide (d ∈ now)
  | [] => rfl
  | e :: r => by
    have ih := any_lst d r
    have e1 : PyData.eqv (strD [e]) (strD [d]) = decide (e = d) := by
      have := eqP_ss ⟨⟨[e]⟩⟩ ⟨⟨[d]⟩⟩
      unfold eqP at this
      simp only [scalP, Bool.true_or, if_true] at this
      have z : PyData.eqv (.str ⟨⟨[e]⟩⟩) (.str ⟨⟨[d]⟩⟩) = ((⟨⟨[e]⟩⟩ : Str) == ⟨⟨[d]⟩⟩) := by simpa using this
      show PyData.eqv (.str ⟨⟨[e]⟩⟩) (.str ⟨⟨[d]⟩⟩) = _
      rw [z]
      by_cases h : e = d <;> simp [h]
    show (PyData.eqv (strD [e]) (strD [d]) || (lst r).any fun z => PyData.eqv z (strD [d])) = _
    rw [ih, e1]
    by_cases h : e = d
    · subst h; simp
    · have : ¬ d = e := fun z => h z.symm
      simp [h, this]
theorem in_lst (d : Nat) (now : List Nat) : inP (strD [d]) (.list (lst now)) = some (.sh (.bool (decide (d ∈ now)))) := by
  unfold inP
  have : inB (strD [d]) (.list (lst now)) = some (decide (d ∈ now)) := by
    show (if ((flatP (strD [d]) && (lst now).all flatP) || _) = true then some _ else none) = _
    rw [flat_lst, any_lst]
    rfl
  rw [this]
  rfl
theorem notIn_lst (d : Nat) (now : List Nat) : notInP (strD [d]) (.list (lst now)) = some (.sh (.bool (!decide (d ∈ now)))) := by
  unfold notInP
  have : inB (strD [d]) (.list (lst now)) = some (decide (d ∈ now)) := by
    show (if ((flatP (strD [d]) && (lst now).all flatP) || _) = true then some _ else none) = _
    rw [flat_lst, any_lst]
    rfl
  rw [this]
  rfl
theorem strL_lst : ∀ now : List Nat, strL (lst now) = some (now.map fun d => (⟨⟨[d]⟩⟩ : Str))
  | [] => rfl
  | d :: r => by
    have ih := strL_lst r
    show (strL (lst r)).map _ = _
    rw [ih]
    rfl
theorem rem_lst {d : Nat} {now : List Nat} (h : d ∈ now) : removeM (lst now) [strD [d]] = some (lst (now.erase d), .none) := by
  have e1 : ∀ now : List Nat, (now.map fun d => (⟨⟨[d]⟩⟩ : Str)).idxOf ⟨⟨[d]⟩⟩ = now.idxOf d := fun now => by
    induction now with
    | nil => rfl
    | cons a r ih =>
      rw [List.map_cons, List.idxOf_cons, List.idxOf_cons, ih]
      by_cases q : a = d
      · subst q; simp
      · have q2 : ((⟨⟨[a]⟩⟩ : Str) == ⟨⟨[d]⟩⟩) = false := by simp [q]
        have q3 : (a == d) = false := by simp [q]
        rw [q2, q3]
  have e2 : now.idxOf d < now.length := List.idxOf_lt_length_of_mem h
  show (match strL (lst now) with
    | some ws => if ws.idxOf _ < ws.length then some ((ws.eraseIdx (ws.idxOf _)).map PyData.str, PyData.none) else none
    | none => none) = _
  rw [strL_lst]
  rw [show (match some (now.map fun d => (⟨⟨[d]⟩⟩ : Str)) with
    | some ws => if ws.idxOf (⟨⟨[d]⟩⟩ : Str) < ws.length then some ((ws.eraseIdx (ws.idxOf (⟨⟨[d]⟩⟩ : Str))).map PyData.str, PyData.none) else none
    | none => none) = if (now.map fun d => (⟨⟨[d]⟩⟩ : Str)).idxOf ⟨⟨[d]⟩⟩ < (now.map fun d => (⟨⟨[d]⟩⟩ : Str)).length then some (((now.map fun d => (⟨⟨[d]⟩⟩ : Str)).eraseIdx ((now.map fun d => (⟨⟨[d]⟩⟩ : Str)).idxOf ⟨⟨[d]⟩⟩)).map PyData.str, PyData.none) else none from rfl]
  rw [e1, List.length_map, if_pos e2]
  rw [List.erase_eq_eraseIdx_of_idxOf rfl]
  congr 2
  have e3 : ∀ (l : List Nat) (j : Nat), ((l.map fun d => (⟨⟨[d]⟩⟩ : Str)).eraseIdx j).map PyData.str = lst (l.eraseIdx j) := fun l => by
    induction l with
    | nil => intro j; rfl
    | cons a r ih =>
      intro j
      cases j with
      | zero => simp [lst, strD, Function.comp_def]
      | succ j => simpa [lst, strD] using ih j
  exact e3 now _
end G
end

section
set_option Elab.async false
set_option linter.all false
set_option maxRecDepth 100000
set_option maxHeartbeats 1000000
set_option pp.maxSteps 400
namespace G
open PySem PySem.Spec DL DH
theorem in_l (d : Nat) (now : List Nat) : inP (.str ⟨#[d]⟩) (.list (lst now)) = some (.sh (.bool (decide (d ∈ now)))) := in_lst d now
theorem notIn_l (d : Nat) (now : List Nat) : notInP (.str ⟨#[d]⟩) (.list (lst now)) = some (.sh (.bool (!decide (d ∈ now)))) := notIn_lst d now
theorem rem_l {d : Nat} {now : List Nat} (h : d ∈ now) : removeM (lst now) [.str ⟨#[d]⟩] = some (lst (now.erase d), .none) := rem_lst h
theorem app_l (d : Nat) (now : List Nat) (h : now.length < 1000000) : appendM (lst now) [.str ⟨#[d]⟩] = some (lst (now ++ [d]), .none) := by
  have h2 : (lst now).length < 1000000 := by simpa [lst] using h
  show (if (lst now).length < 1000000 then some (lst now ++ [.str ⟨#[d]⟩], PyData.none) else none) = _
  rw [if_pos h2]
  simp [lst, strD]
theorem d1 : (Str.ofString "-") = (⟨#[45]⟩ : Str) := by kernel_rfl
theorem d2 : (Str.ofString ".") = (⟨#[46]⟩ : Str) := by kernel_rfl
def gbody : DS := (dIfS (dTest (dBin eqP (dBin ixP (dV 1) (dC (.int 0))) (dC (.str ("-" : Str))))) (dSeq (dIfS (dTest (dBin notInP (dBin ixP (dV 1) (dC (.int 1))) (dV 2))) (dRet (dC (.bool false))) dNext)
    (dExpr (dMut 2 (dCons (dBin ixP (dV 1) (dC (.int 1))) dNil) removeM))) (dIfS (dTest (dBin neP (dV 1) (dC (.str ("." : Str))))) (dSeq (dIfS (dTest (dBin inP (dBin ixP (dV 1) (dC (.int 1))) (dV 2))) (dRet (dC (.bool false))) dNext)
    (dExpr (dMut 2 (dCons (dBin ixP (dV 1) (dC (.int 1))) dNil) appendM))) dNext))
theorem gb1 (v0 : Option DV) (now : List Nat) (c : Nat) (hc : c = 46) : gbody [v0, some (.sh (strD [c])), some (.ow (.lst (lst now)))] = .ok .nx [v0, some (.sh (strD [c])), some (.ow (.lst (lst now)))] := by
  subst hc
  simp [gbody, strD, d1, d2, eqP_ss, neP_ss, eqP_ii, inP_1, Str.length, L2.atI, L2.ixN, bodyM2, bodyF, bodyV, entryM, entryR, entryV, muAt, lstAt, putL, dSeq, dIfS, dExpr, dRet, dSet, putV, dNext, dMut, dSetIx, dCallM, dCall, callR, dB, dSl, pSome, pNone, slP, cutD, ofO, peek, keep, coerce, coerceAll, peekAll, gN, dTest, dBin, dV, dC, dNil, dCons, dTup, dLst, dIf, dNotT, dAndT, dOrT, dNotV, dAndV, dOrV, dM1, dIsi, tyName, isDict, kb1, kb2, kb3, kb4, kb5, kb6, kb7, kb8, kb9, kb10, kb11, kb12, R.bind, addP, subP, mulP, fdivP, modP, powP, ltP, leP, gtP, geP, ixP, intP, absP, lenP, R.bind_ok, R.bind_bad, R.bind_exc, OC.data, plainR, noMut, noMut.go, List.getElem?_cons_zero, List.getElem?_cons_succ, List.set_cons_zero, List.set_cons_succ, List.replicate]
theorem gb2 (v0 : Option DV) (now : List Nat) (d : Nat) (h : d ∈ now) : gbody [v0, some (.sh (strD [45, d])), some (.ow (.lst (lst now)))] = .ok .nx [v0, some (.sh (strD [45, d])), some (.ow (.lst (lst (now.erase d))))] := by
  simp [gbody, strD, d1, d2, eqP_ss, neP_ss, eqP_ii, inP_1, Str.length, L2.atI, L2.ixN, bodyM2, bodyF, bodyV, entryM, entryR, entryV, muAt, lstAt, putL, dSeq, dIfS, dExpr, dRet, dSet, putV, dNext, dMut, dSetIx, dCallM, dCall, callR, dB, dSl, pSome, pNone, slP, cutD, ofO, peek, keep, coerce, coerceAll, peekAll, gN, dTest, dBin, dV, dC, dNil, dCons, dTup, dLst, dIf, dNotT, dAndT, dOrT, dNotV, dAndV, dOrV, dM1, dIsi, tyName, isDict, kb1, kb2, kb3, kb4, kb5, kb6, kb7, kb8, kb9, kb10, kb11, kb12, R.bind, addP, subP, mulP, fdivP, modP, powP, ltP, leP, gtP, geP, ixP, intP, absP, lenP, R.bind_ok, R.bind_bad, R.bind_exc, OC.data, plainR, noMut, noMut.go, List.getElem?_cons_zero, List.getElem?_cons_succ, List.set_cons_zero, List.set_cons_succ, List.replicate, in_l, notIn_l, rem_l h, h]
theorem gb2n (v0 : Option DV) (now : List Nat) (d : Nat) (h : d ∉ now) : gbody [v0, some (.sh (strD [45, d])), some (.ow (.lst (lst now)))] = .ok (.rt (.sh (.bool false))) [v0, some (.sh (strD [45, d])), some (.ow (.lst (lst now)))] := by
  simp [gbody, strD, d1, d2, eqP_ss, neP_ss, eqP_ii, inP_1, Str.length, L2.atI, L2.ixN, bodyM2, bodyF, bodyV, entryM, entryR, entryV, muAt, lstAt, putL, dSeq, dIfS, dExpr, dRet, dSet, putV, dNext, dMut, dSetIx, dCallM, dCall, callR, dB, dSl, pSome, pNone, slP, cutD, ofO, peek, keep, coerce, coerceAll, peekAll, gN, dTest, dBin, dV, dC, dNil, dCons, dTup, dLst, dIf, dNotT, dAndT, dOrT, dNotV, dAndV, dOrV, dM1, dIsi, tyName, isDict, kb1, kb2, kb3, kb4, kb5, kb6, kb7, kb8, kb9, kb10, kb11, kb12, R.bind, addP, subP, mulP, fdivP, modP, powP, ltP, leP, gtP, geP, ixP, intP, absP, lenP, R.bind_ok, R.bind_bad, R.bind_exc, OC.data, plainR, noMut, noMut.go, List.getElem?_cons_zero, List.getElem?_cons_succ, List.set_cons_zero, List.set_cons_succ, List.replicate, in_l, notIn_l, h]
theorem gb3 (v0 : Option DV) (now : List Nat) (c d : Nat) (hc : c ≠ 45) (h : d ∉ now) (hl : now.length < 1000000) : gbody [v0, some (.sh (strD [c, d])), some (.ow (.lst (lst now)))] = .ok .nx [v0, some (.sh (strD [c, d])), some (.ow (.lst (lst (now ++ [d]))))] := by
  simp [gbody, strD, d1, d2, eqP_ss, neP_ss, eqP_ii, inP_1, Str.length, L2.atI, L2.ixN, bodyM2, bodyF, bodyV, entryM, entryR, entryV, muAt, lstAt, putL, dSeq, dIfS, dExpr, dRet, dSet, putV, dNext, dMut, dSetIx, dCallM, dCall, callR, dB, dSl, pSome, pNone, slP, cutD, ofO, peek, keep, coerce, coerceAll, peekAll, gN, dTest, dBin, dV, dC, dNil, dCons, dTup, dLst, dIf, dNotT, dAndT, dOrT, dNotV, dAndV, dOrV, dM1, dIsi, tyName, isDict, kb1, kb2, kb3, kb4, kb5, kb6, kb7, kb8, kb9, kb10, kb11, kb12, R.bind, addP, subP, mulP, fdivP, modP, powP, ltP, leP, gtP, geP, ixP, intP, absP, lenP, R.bind_ok, R.bind_bad, R.bind_exc, OC.data, plainR, noMut, noMut.go, List.getElem?_cons_zero, List.getElem?_cons_succ, List.set_cons_zero, List.set_cons_succ, List.replicate, in_l, notIn_l, app_l d now hl, h, hc]
theorem gb3n (v0 : Option DV) (now : List Nat) (c d : Nat) (hc : c ≠ 45) (h : d ∈ now) : gbody [v0, some (.sh (strD [c, d])), some (.ow (.lst (lst now)))] = .ok (.rt (.sh (.bool false))) [v0, some (.sh (strD [c, d])), some (.ow (.lst (lst now)))] := by
  simp [gbody, strD, d1, d2, eqP_ss, neP_ss, eqP_ii, inP_1, Str.length, L2.atI, L2.ixN, bodyM2, bodyF, bodyV, entryM, entryR, entryV, muAt, lstAt, putL, dSeq, dIfS, dExpr, dRet, dSet, putV, dNext, dMut, dSetIx, dCallM, dCall, callR, dB, dSl, pSome, pNone, slP, cutD, ofO, peek, keep, coerce, coerceAll, peekAll, gN, dTest, dBin, dV, dC, dNil, dCons, dTup, dLst, dIf, dNotT, dAndT, dOrT, dNotV, dAndV, dOrV, dM1, dIsi, tyName, isDict, kb1, kb2, kb3, kb4, kb5, kb6, kb7, kb8, kb9, kb10, kb11, kb12, R.bind, addP, subP, mulP, fdivP, modP, powP, ltP, leP, gtP, geP, ixP, intP, absP, lenP, R.bind_ok, R.bind_bad, R.bind_exc, OC.data, plainR, noMut, noMut.go, List.getElem?_cons_zero, List.getElem?_cons_succ, List.set_cons_zero, List.set_cons_succ, List.replicate, in_l, notIn_l, h, hc]
theorem run_len : ∀ {ls : List (List Nat)} {now now' : List Nat}, run now ls = some now' → now'.length ≤ now.length + ls.length
  | [], now, now', h => by simp [run] at h; subst h; simp
  | [_] :: r, now, now', h => by
    have := run_len (ls := r) (now := now) (now' := now') (by simpa [run] using h)
    simp; omega
  | [c, d] :: r, now, now', h => by
    unfold run at h
    split at h
    · split at h
      · have := run_len h
        have := List.length_erase_le (a := d) (l := now)
        simp; omega
      · cases h
    · split at h
      · cases h
      · have := run_len h
        simp at this ⊢; omega
  | [] :: r, now, now', h => by simp [run] at h
  | (_ :: _ :: _ :: _) :: r, now, now', h => by simp [run] at h
theorem good_loop (v0 : Option DV) : ∀ (ls : List (List Nat)) (now : List Nat) (x1 : Option DV), ls.all isStepL = true → now.length + ls.length < 1000000 →
    (∀ now', run now ls = some now' → ∃ x', forD (gN 1) gbody (ls.map strD) [v0, x1, some (.ow (.lst (lst now)))] = .ok .nx [v0, x', some (.ow (.lst (lst now')))]) ∧
    (run now ls = none → ∃ ρ', forD (gN 1) gbody (ls.map strD) [v0, x1, some (.ow (.lst (lst now)))] = .ok (.rt (.sh (.bool false))) ρ')
  | [], now, x1, _, _ => ⟨fun now' h => ⟨x1, by simp [run] at h; subst h; rfl⟩, fun h => by simp [run] at h⟩
  | l :: r, now, x1, ha, hl => by
    simp only [List.all_cons, Bool.and_eq_true] at ha
    obtain ⟨h1, h2⟩ := ha
    have hlen : now.length < 1000000 := by simp at hl; omega
    have step : ∀ (ρ1 : Rho) (o : SO), gbody [v0, some (.sh (strD l)), some (.ow (.lst (lst now)))] = .ok o ρ1 → forD (gN 1) gbody ((l :: r).map strD) [v0, x1, some (.ow (.lst (lst now)))] = (match o with
        | .nx => forD (gN 1) gbody (r.map strD) ρ1
        | .ct => forD (gN 1) gbody (r.map strD) ρ1
        | .bk => .ok .nx ρ1
        | .rt dv => .ok (.rt dv) ρ1) := fun ρ1 o e => by
      show (match gN 1 (strD l) [v0, x1, some (.ow (.lst (lst now)))] with
        | .ok .nx ρ1 => (gbody ρ1).bind fun o ρ2 => match o with
          | .nx => forD (gN 1) gbody (r.map strD) ρ2
          | .ct => forD (gN 1) gbody (r.map strD) ρ2
          | .bk => .ok .nx ρ2
          | .rt dv => .ok (.rt dv) ρ2
        | _ => .bad) = _
      have e0 : gN 1 (strD l) [v0, x1, some (.ow (.lst (lst now)))] = .ok .nx [v0, some (.sh (strD l)), some (.ow (.lst (lst now)))] := rfl
      rw [e0]
      show (gbody [v0, some (.sh (strD l)), some (.ow (.lst (lst now)))]).bind _ = _
      rw [e]
      rfl
    match l, h1 with
    | [c], h1 =>
      have hc : c = 46 := by simpa [isStepL] using h1
      have e := step _ _ (gb1 v0 now c hc)
      have ih := good_loop v0 r now (some (.sh (strD [c]))) h2 (by simp at hl; omega)
      have er : run now ([c] :: r) = run now r := by simp [run]
      rw [er]
      refine ⟨fun now' h => ?_, fun h => ?_⟩
      · obtain ⟨x', q⟩ := ih.1 now' h
        exact ⟨x', by rw [e]; exact q⟩
      · obtain ⟨ρ', q⟩ := ih.2 h
        exact ⟨ρ', by rw [e]; exact q⟩
    | [c, d], h1 =>
      by_cases hc : c = 45
      · subst hc
        by_cases hd : d ∈ now
        · have e := step _ _ (gb2 v0 now d hd)
          have := List.length_erase_le (a := d) (l := now)
          have ih := good_loop v0 r (now.erase d) (some (.sh (strD [45, d]))) h2 (by simp at hl; omega)
          have er : run now ([45, d] :: r) = run (now.erase d) r := by simp [run, hd]
          rw [er]
          refine ⟨fun now' h => ?_, fun h => ?_⟩
          · obtain ⟨x', q⟩ := ih.1 now' h
            exact ⟨x', by rw [e]; exact q⟩
          · obtain ⟨ρ', q⟩ := ih.2 h
            exact ⟨ρ', by rw [e]; exact q⟩
        · have e := step _ _ (gb2n v0 now d hd)
          have er : run now ([45, d] :: r) = none := by simp [run, hd]
          rw [er]
          exact ⟨(fun now' h => nomatch h), fun _ => ⟨_, e⟩⟩
      · by_cases hd : d ∈ now
        · have e := step _ _ (gb3n v0 now c d hc hd)
          have er : run now ([c, d] :: r) = none := by simp [run, hd, hc]
          rw [er]
          exact ⟨(fun now' h => nomatch h), fun _ => ⟨_, e⟩⟩
        · have e := step _ _ (gb3 v0 now c d hc hd hlen)
          have ih := good_loop v0 r (now ++ [d]) (some (.sh (strD [c, d]))) h2 (by simp at hl ⊢; omega)
          have er : run now ([c, d] :: r) = run (now ++ [d]) r := by simp [run, hd, hc]
          rw [er]
          refine ⟨fun now' h => ?_, fun h => ?_⟩
          · obtain ⟨x', q⟩ := ih.1 now' h
            exact ⟨x', by rw [e]; exact q⟩
          · obtain ⟨ρ', q⟩ := ih.2 h
            exact ⟨ρ', by rw [e]; exact q⟩
    | [], h1 => simp [isStepL] at h1
    | _ :: _ :: _ :: _, h1 => simp [isStepL] at h1
def goodL (ls : List (List Nat)) : Bool := decide (ls.length ≤ 16) && ls.all isStepL && decide (run [] ls = some [])
def okL (l : List Nat) : Prop := ∀ c ∈ l, c < 1114112
theorem canLay_strs : ∀ ls : List (List Nat), (∀ l ∈ ls, okL l) → PyData.canLayAll0 (ls.map strD) = true
  | [], _ => rfl
  | l :: r, h => by
    have ih := canLay_strs r fun x hx => h x (List.mem_cons_of_mem _ hx)
    show (PyData.strOk ⟨⟨l⟩⟩ && PyData.canLayAll0 (r.map strD)) = true
    rw [ih, Bool.and_true]
    have := h l List.mem_cons_self
    simp [PyData.strOk]
    intro c hc
    exact this c hc
theorem depth_strs : ∀ ls : List (List Nat), PyData.depthAll (ls.map strD) = 0
  | [] => rfl
  | l :: r => by
    show max 0 (PyData.depthAll (r.map strD)) = 0
    rw [depth_strs r]
    rfl
theorem shaped_l {ls : List (List Nat)} (h : ∀ l ∈ ls, okL l) : SeqAt.shaped (.list (ls.map strD)) = true := by
  show (PyData.canLayAll0 (ls.map strD) && decide (PyData.depthAll (ls.map strD) + 1 ≤ 64)) = true
  rw [canLay_strs ls h, depth_strs]
  rfl
theorem shaped_t {ls : List (List Nat)} (h : ∀ l ∈ ls, okL l) : SeqAt.shaped (.tuple (ls.map strD)) = true := by
  show (PyData.canLayAll0 (ls.map strD) && decide (PyData.depthAll (ls.map strD) + 1 ≤ 64)) = true
  rw [canLay_strs ls h, depth_strs]
  rfl
theorem eqv_s (a b : List Nat) : PyData.eqv (strD a) (strD b) = decide (a = b) := by
  have h : PyData.eqv (.str ⟨⟨a⟩⟩) (.str ⟨⟨b⟩⟩) = ((⟨⟨a⟩⟩ : Str) == ⟨⟨b⟩⟩) := by
    have := eqP_ss ⟨⟨a⟩⟩ ⟨⟨b⟩⟩
    unfold eqP at this
    simp only [scalP, Bool.true_or, if_true] at this
    simpa using this
  show PyData.eqv (.str ⟨⟨a⟩⟩) (.str ⟨⟨b⟩⟩) = _
  rw [h]
  by_cases e : a = b <;> simp [e]
theorem eqv_strs : ∀ ls ms : List (List Nat), PyData.eqvAll (ls.map strD) (ms.map strD) = decide (ls = ms)
  | [], [] => rfl
  | [], _ :: _ => rfl
  | _ :: _, [] => rfl
  | a :: r, b :: t => by
    show (PyData.eqv (strD a) (strD b) && PyData.eqvAll (r.map strD) (t.map strD)) = _
    rw [eqv_s, eqv_strs r t]
    by_cases e : a = b <;> by_cases e2 : r = t <;> simp [e, e2]
theorem eqP_tt {ls ms : List (List Nat)} (h1 : ∀ l ∈ ls, okL l) (h2 : ∀ l ∈ ms, okL l) : eqP (.tuple (ls.map strD)) (.tuple (ms.map strD)) = some (.sh (.bool (decide (ls = ms)))) := by
  unfold eqP
  rw [shaped_t h1, shaped_t h2]
  simp only [scalP, Bool.and_self, Bool.or_true, if_true]
  show some (DV.sh (.bool (PyData.eqvAll (ls.map strD) (ms.map strD)))) = _
  rw [eqv_strs]
theorem neP_tt {ls ms : List (List Nat)} (h1 : ∀ l ∈ ls, okL l) (h2 : ∀ l ∈ ms, okL l) : neP (.tuple (ls.map strD)) (.tuple (ms.map strD)) = some (.sh (.bool (!decide (ls = ms)))) := by
  unfold neP
  rw [shaped_t h1, shaped_t h2]
  simp only [scalP, Bool.and_self, Bool.or_true, if_true]
  show some (DV.sh (.bool (!PyData.eqvAll (ls.map strD) (ms.map strD)))) = _
  rw [eqv_strs]
theorem eqP_ll {ls ms : List (List Nat)} (h1 : ∀ l ∈ ls, okL l) (h2 : ∀ l ∈ ms, okL l) : eqP (.list (ls.map strD)) (.list (ms.map strD)) = some (.sh (.bool (decide (ls = ms)))) := by
  unfold eqP
  rw [shaped_l h1, shaped_l h2]
  simp only [scalP, Bool.and_self, Bool.or_true, if_true]
  show some (DV.sh (.bool (PyData.eqvAll (ls.map strD) (ms.map strD)))) = _
  rw [eqv_strs]
theorem neP_ll {ls ms : List (List Nat)} (h1 : ∀ l ∈ ls, okL l) (h2 : ∀ l ∈ ms, okL l) : neP (.list (ls.map strD)) (.list (ms.map strD)) = some (.sh (.bool (!decide (ls = ms)))) := by
  unfold neP
  rw [shaped_l h1, shaped_l h2]
  simp only [scalP, Bool.and_self, Bool.or_true, if_true]
  show some (DV.sh (.bool (!PyData.eqvAll (ls.map strD) (ms.map strD)))) = _
  rw [eqv_strs]
theorem lst_map (now : List Nat) : lst now = (now.map fun d => [d]).map strD := by simp [lst, Function.comp_def]
theorem ok1 {now : List Nat} (h : okL now) : ∀ l ∈ now.map (fun d => [d]), okL l := by
  intro l hl
  obtain ⟨d, hd, rfl⟩ := List.mem_map.mp hl
  intro c hc
  simp at hc
  subst hc
  exact h c hd
theorem lst_eq {now : List Nat} (h : okL now) : eqP (.list (lst now)) (.list []) = some (.sh (.bool (decide (now = [])))) := by
  rw [lst_map]
  have := eqP_ll (ms := []) (ok1 h) (fun l hl => nomatch hl)
  simpa using this
theorem lst_ne {now : List Nat} (h : okL now) : neP (.list (lst now)) (.list []) = some (.sh (.bool (!decide (now = [])))) := by
  rw [lst_map]
  have := neP_ll (ms := []) (ok1 h) (fun l hl => nomatch hl)
  simpa using this
theorem step_ok {l : List Nat} (h : isStepL l = true) : okL l := by
  intro c hc
  match l, h with
  | [a], h => simp [isStepL] at h; simp at hc; omega
  | [a, d], h => simp [isStepL] at h; simp at hc; omega
theorem run_ok : ∀ {ls : List (List Nat)} {now now' : List Nat}, run now ls = some now' → (∀ l ∈ ls, okL l) → okL now → okL now'
  | [], now, now', h, _, o => by simp [run] at h; subst h; exact o
  | [_] :: r, now, now', h, a, o => run_ok (ls := r) (now := now) (by simpa [run] using h) (fun l hl => a l (List.mem_cons_of_mem _ hl)) o
  | [c, d] :: r, now, now', h, a, o => by
    have a' := fun l hl => a l (List.mem_cons_of_mem _ hl)
    unfold run at h
    split at h
    · split at h
      · exact run_ok h a' fun x hx => o x (List.mem_of_mem_erase hx)
      · cases h
    · split at h
      · cases h
      · refine run_ok h a' fun x hx => ?_
        rcases List.mem_append.mp hx with hx | hx
        · exact o x hx
        · simp at hx; subst hx
          exact a _ List.mem_cons_self x (by simp)
  | [] :: r, now, now', h, _, _ => by simp [run] at h
  | (_ :: _ :: _ :: _) :: r, now, now', h, _, _ => by simp [run] at h
theorem all_map {α : Type} (r : α → Bool) (l : List α) : (l.map r).all id = l.all r := by simp [List.all_map, Function.comp_def]
theorem seq_nx {a b : DS} {ρ ρ1 : Rho} (h : a ρ = .ok .nx ρ1) : dSeq a b ρ = b ρ1 := by unfold dSeq; rw [h]; rfl
theorem seq_rt {a b : DS} {ρ ρ1 : Rho} {dv : DV} (h : a ρ = .ok (.rt dv) ρ1) : dSeq a b ρ = .ok (.rt dv) ρ1 := by unfold dSeq; rw [h]; rfl
theorem seq_exc {a b : DS} {ρ ρ1 : Rho} {c : Str} (h : a ρ = .exc c ρ1) : dSeq a b ρ = .exc c ρ1 := by unfold dSeq; rw [h]; rfl
theorem if_t {c : DB} {a b : DS} {ρ ρ1 : Rho} (h : c ρ = .ok true ρ1) : dIfS c a b ρ = a ρ1 := by unfold dIfS; rw [h]; rfl
theorem if_f {c : DB} {a b : DS} {ρ ρ1 : Rho} (h : c ρ = .ok false ρ1) : dIfS c a b ρ = b ρ1 := by unfold dIfS; rw [h]; rfl
theorem for_by {ι : DI} {γ : DG} {b : DS} {ρ ρ1 : Rho} {ds : List PyData} (h : ι ρ = .ok ds ρ1) : dFor ι γ b ρ = forD γ b ds ρ1 := by unfold dFor; rw [h]; rfl
/-- what a def's end gives -/
def fin (r : R SO) : Option FR := match r with
  | R.bad => none
  | R.exc c _ => some (FR.exc c)
  | R.ok SO.nx _ => some (FR.ok (.sh .none))
  | R.ok (SO.rt (.sh d)) _ => some (FR.ok (.sh d))
  | R.ok (SO.rt (.ow c)) _ => some (FR.ok (.ow c))
  | R.ok _ _ => none
theorem bodyF_fin (n : Nat) (δ : DS) (ds : List PyData) : bodyF n δ ds = fin (δ (entryR n ds)) := by
  unfold bodyF fin
  rfl
theorem is_good_spec (ls : List (List Nat)) (h1 : ∀ l ∈ ls, l.length ≤ 1000000) (h2 : ls.length < 1000000) : F_is_good [.tuple (ls.map strD)] = some (.ok (.sh (.bool (goodL ls)))) := by
  have hcall : ∀ d ∈ ls.map strD, F_is_step [d] = some (.ok (.sh (.bool ((match d with | .str z => isStepL z.cps.toList | _ => false))))) := fun d hd => by
    obtain ⟨l, hl, rfl⟩ := List.mem_map.mp hd
    exact is_step_str l (h1 l hl)
  have t1 : dTest (dIsi "tuple" (dV 0)) [some (.sh (.tuple (ls.map strD))), none, none] = .ok true [some (.sh (.tuple (ls.map strD))), none, none] := by
    simp [eqP_ss, neP_ss, eqP_ii, inP_1, Str.length, L2.atI, L2.ixN, bodyM2, bodyF, bodyV, entryM, entryR, entryV, muAt, lstAt, putL, dSeq, dIfS, dExpr, dRet, dSet, putV, dNext, dMut, dSetIx, dCallM, dCall, callR, dB, dSl, pSome, pNone, slP, cutD, ofO, peek, keep, coerce, coerceAll, peekAll, gN, dTest, dBin, dV, dC, dNil, dCons, dTup, dLst, dIf, dNotT, dAndT, dOrT, dNotV, dAndV, dOrV, dM1, dIsi, tyName, isDict, kb1, kb2, kb3, kb4, kb5, kb6, kb7, kb8, kb9, kb10, kb11, kb12, R.bind, addP, subP, mulP, fdivP, modP, powP, ltP, leP, gtP, geP, ixP, intP, absP, lenP, R.bind_ok, R.bind_bad, R.bind_exc, OC.data, plainR, noMut, noMut.go, List.getElem?_cons_zero, List.getElem?_cons_succ, List.set_cons_zero, List.set_cons_succ, List.replicate]
  have t2 : dTest (dBin gtP (dB lenP (dCons (dV 0) dNil)) (dC (.int 16))) [some (.sh (.tuple (ls.map strD))), none, none] = .ok (decide (16 < ls.length)) [some (.sh (.tuple (ls.map strD))), none, none] := by
    have q : ((16 : Int) < (ls.length : Int)) ↔ 16 < ls.length := by omega
    simp [eqP_ss, neP_ss, eqP_ii, inP_1, Str.length, L2.atI, L2.ixN, bodyM2, bodyF, bodyV, entryM, entryR, entryV, muAt, lstAt, putL, dSeq, dIfS, dExpr, dRet, dSet, putV, dNext, dMut, dSetIx, dCallM, dCall, callR, dB, dSl, pSome, pNone, slP, cutD, ofO, peek, keep, coerce, coerceAll, peekAll, gN, dTest, dBin, dV, dC, dNil, dCons, dTup, dLst, dIf, dNotT, dAndT, dOrT, dNotV, dAndV, dOrV, dM1, dIsi, tyName, isDict, kb1, kb2, kb3, kb4, kb5, kb6, kb7, kb8, kb9, kb10, kb11, kb12, R.bind, addP, subP, mulP, fdivP, modP, powP, ltP, leP, gtP, geP, ixP, intP, absP, lenP, R.bind_ok, R.bind_bad, R.bind_exc, OC.data, plainR, noMut, noMut.go, List.getElem?_cons_zero, List.getElem?_cons_succ, List.set_cons_zero, List.set_cons_succ, List.replicate, q]
  have t3 : dTest (dB allP (dCons (dLc (iTupD (dV 0)) (gN 1) dYes (dCall F_is_step (dCons (dV 1) dNil)) [1]) dNil)) [some (.sh (.tuple (ls.map strD))), none, none] = .ok (ls.all isStepL) [some (.sh (.tuple (ls.map strD))), none, none] := by
    have e := lcD_call (F := F_is_step) (i := 1) (ρ := [some (.sh (.tuple (ls.map strD))), none, none]) rfl (ls.map strD) [] hcall (by simpa using Nat.le_of_lt h2)
    have e2 : dLc (iTupD (dV 0)) (gN 1) dYes (dCall F_is_step (dCons (dV 1) dNil)) [1] [some (.sh (.tuple (ls.map strD))), none, none] = R.ok (DV.ow (.lst (ls.map fun l => PyData.bool (isStepL l)))) [some (.sh (.tuple (ls.map strD))), none, none] := by
      have e' : (ls.map strD).map (fun d => PyData.bool (match d with | .str z => isStepL z.cps.toList | _ => false)) = ls.map fun l => PyData.bool (isStepL l) := by
        rw [List.map_map]
        rfl
      rw [e', List.nil_append] at e
      show (match lcD (gN 1) dYes (dCall F_is_step (dCons (dV 1) dNil)) [1] (ls.map strD) [] [some (.sh (.tuple (ls.map strD))), none, none] with
        | R.ok zs ρ2 => R.ok (DV.ow (.lst zs)) (restoreR ρ2 [some (.sh (.tuple (ls.map strD))), none, none] [1])
        | _ => R.bad) = _
      rw [e]
      rfl
    generalize hδ : dLc (iTupD (dV 0)) (gN 1) dYes (dCall F_is_step (dCons (dV 1) dNil)) [1] = δ at e2 ⊢
    have e4 : allP [.list (ls.map fun l => PyData.bool (isStepL l))] = some (.sh (.bool (ls.all isStepL))) := by
      show (bools (ls.map fun l => PyData.bool (isStepL l))).map (fun bs => DV.sh (.bool (bs.all id))) = _
      rw [bools_map, Option.map_some, all_map]
    simp [eqP_ss, neP_ss, eqP_ii, inP_1, Str.length, L2.atI, L2.ixN, bodyM2, bodyF, bodyV, entryM, entryR, entryV, muAt, lstAt, putL, dSeq, dIfS, dExpr, dRet, dSet, putV, dNext, dMut, dSetIx, dCallM, dCall, callR, dB, dSl, pSome, pNone, slP, cutD, ofO, peek, keep, coerce, coerceAll, peekAll, gN, dTest, dBin, dV, dC, dNil, dCons, dTup, dLst, dIf, dNotT, dAndT, dOrT, dNotV, dAndV, dOrV, dM1, dIsi, tyName, isDict, kb1, kb2, kb3, kb4, kb5, kb6, kb7, kb8, kb9, kb10, kb11, kb12, R.bind, addP, subP, mulP, fdivP, modP, powP, ltP, leP, gtP, geP, ixP, intP, absP, lenP, R.bind_ok, R.bind_bad, R.bind_exc, OC.data, plainR, noMut, noMut.go, List.getElem?_cons_zero, List.getElem?_cons_succ, List.set_cons_zero, List.set_cons_succ, List.replicate, e4, e2]
  have c1 : (dOrT (dNotT (dTest (dIsi "tuple" (dV 0)))) (dOrT (dTest (dBin gtP (dB lenP (dCons (dV 0) dNil)) (dC (.int 16)))) (dNotT (dTest (dB allP (dCons (dLc (iTupD (dV 0)) (gN 1) dYes (dCall F_is_step (dCons (dV 1) dNil)) [1]) dNil)))))) [some (.sh (.tuple (ls.map strD))), none, none] = .ok (!(decide (ls.length ≤ 16) && ls.all isStepL)) [some (.sh (.tuple (ls.map strD))), none, none] := by
    unfold dOrT dNotT
    simp only [t1, t2, t3, R.bind_ok]
    by_cases q : 16 < ls.length
    · have q2 : ¬ ls.length ≤ 16 := by omega
      simp [q, q2]
    · have q2 : ls.length ≤ 16 := by omega
      simp [q, q2, t3]
  rw [show F_is_good [.tuple (ls.map strD)] = bodyF 3 d_is_good [.tuple (ls.map strD)] from rfl, bodyF_fin]
  show fin (dSeq (dIfS (dOrT (dNotT (dTest (dIsi "tuple" (dV 0)))) (dOrT (dTest (dBin gtP (dB lenP (dCons (dV 0) dNil)) (dC (.int 16)))) (dNotT (dTest (dB allP (dCons (dLc (iTupD (dV 0)) (gN 1) dYes (dCall F_is_step (dCons (dV 1) dNil)) [1]) dNil)))))) (dRet (dC (.bool false))) dNext) (dSeq (dSet 2 (dLst dNil)) (dSeq (dFor (iTupD (dV 0)) (gN 1) gbody) (dRet (dBin eqP (dV 2) (dLst dNil))))) [some (.sh (.tuple (ls.map strD))), none, none]) = _
  by_cases g : (decide (ls.length ≤ 16) && ls.all isStepL) = true
  · have g1 : ls.all isStepL = true := (Bool.and_eq_true_iff.mp g).2
    have lp := good_loop (some (.sh (.tuple (ls.map strD)))) ls [] none g1 (by simpa using h2)
    have okls : ∀ l ∈ ls, okL l := fun l hl => step_ok (List.all_eq_true.mp g1 l hl)
    unfold goodL
    rw [g] at c1 ⊢
    have s1 := if_f (a := dRet (dC (.bool false))) (b := dNext) c1
    have s2 : dSet 2 (dLst dNil) [some (.sh (.tuple (ls.map strD))), none, none] = .ok .nx [some (.sh (.tuple (ls.map strD))), none, some (.ow (.lst (lst [])))] := rfl
    have it : iTupD (dV 0) [some (.sh (.tuple (ls.map strD))), none, some (.ow (.lst (lst [])))] = .ok (ls.map strD) [some (.sh (.tuple (ls.map strD))), none, some (.ow (.lst (lst [])))] := rfl
    rw [seq_nx (s1.trans rfl), seq_nx s2]
    cases q : run [] ls with
    | none =>
      obtain ⟨ρ', e⟩ := lp.2 q
      rw [seq_rt ((for_by it).trans e)]
      rfl
    | some now' =>
      obtain ⟨x', e⟩ := lp.1 now' q
      rw [seq_nx ((for_by it).trans e)]
      have hn : okL now' := run_ok q okls (fun c hc => nomatch hc)
      have le := lst_eq hn
      have e9 : dRet (dBin eqP (dV 2) (dLst dNil)) [some (.sh (.tuple (ls.map strD))), x', some (.ow (.lst (lst now')))] = .ok (.rt (.sh (.bool (decide (now' = []))))) [some (.sh (.tuple (ls.map strD))), x', some (.ow (.lst (lst now')))] := by
        simp [eqP_ss, neP_ss, eqP_ii, inP_1, Str.length, L2.atI, L2.ixN, bodyM2, bodyF, bodyV, entryM, entryR, entryV, muAt, lstAt, putL, dSeq, dIfS, dExpr, dRet, dSet, putV, dNext, dMut, dSetIx, dCallM, dCall, callR, dB, dSl, pSome, pNone, slP, cutD, ofO, peek, keep, coerce, coerceAll, peekAll, gN, dTest, dBin, dV, dC, dNil, dCons, dTup, dLst, dIf, dNotT, dAndT, dOrT, dNotV, dAndV, dOrV, dM1, dIsi, tyName, isDict, kb1, kb2, kb3, kb4, kb5, kb6, kb7, kb8, kb9, kb10, kb11, kb12, R.bind, addP, subP, mulP, fdivP, modP, powP, ltP, leP, gtP, geP, ixP, intP, absP, lenP, R.bind_ok, R.bind_bad, R.bind_exc, OC.data, plainR, noMut, noMut.go, List.getElem?_cons_zero, List.getElem?_cons_succ, List.set_cons_zero, List.set_cons_succ, List.replicate, le]
      rw [e9]
      by_cases z : now' = [] <;> simp [z, fin]
  · have g' : (decide (ls.length ≤ 16) && ls.all isStepL) = false := by simpa using g
    unfold goodL
    rw [g'] at c1 ⊢
    have s1 := if_t (a := dRet (dC (.bool false))) (b := dNext) c1
    rw [seq_rt (s1.trans rfl)]
    rfl
end G
end

section
set_option Elab.async false
set_option linter.all false
set_option maxRecDepth 100000
set_option maxHeartbeats 1000000
set_option pp.maxSteps 400
namespace G
open PySem PySem.Spec DL DH
theorem seq_yes {c : DB} {b : DS} {ρ ρ1 : Rho} {d : PyData} (h : c ρ = .ok true ρ1) : dSeq (dIfS c (dRet (dC d)) dNext) b ρ = .ok (.rt (.sh d)) ρ1 := seq_rt ((if_t h).trans rfl)
theorem seq_no {c : DB} {a b : DS} {ρ ρ1 : Rho} (h : c ρ = .ok false ρ1) : dSeq (dIfS c a dNext) b ρ = b ρ1 := seq_nx ((if_f h).trans rfl)
def kvsD (es : List (Nat × Bool)) : List (PyData × PyData) := es.map fun p => (strD [p.1], .bool p.2)
def lkE (d : Nat) : List (Nat × Bool) → Option Bool
  | [] => none
  | (k, b) :: r => if k = d then some b else lkE d r
def putE (es : List (Nat × Bool)) (d : Nat) (b : Bool) : List (Nat × Bool) := if (lkE d es).isSome = true then es.map (fun p => if p.1 = d then (p.1, b) else p) else es ++ [(d, b)]
theorem key_s (k d : Nat) : (keyOf (strD [k]) = some (Sum.inr ⟨#[d]⟩)) ↔ k = d := by
  simp [keyOf, strD]
theorem look_kvs (d : Nat) : ∀ es, lookK (kvsD es) (.inr ⟨#[d]⟩) = (lkE d es).map .bool
  | [] => rfl
  | (k, b) :: r => by
    have ih := look_kvs d r
    show (if keyOf (strD [k]) = some (Sum.inr ⟨#[d]⟩) then some (PyData.bool b) else lookK (kvsD r) _) = _
    simp only [key_s, lkE, ih]
    by_cases h : k = d <;> simp [h]
theorem put_kvs (es : List (Nat × Bool)) (d : Nat) (b : Bool) : putKD (kvsD es) (.inr ⟨#[d]⟩) (.bool b) = kvsD (putE es d b) := by
  unfold putKD putE
  rw [look_kvs, Option.isSome_map]
  by_cases h : (lkE d es).isSome = true
  · rw [if_pos h, if_pos h]
    unfold kvsD
    rw [List.map_map, List.map_map]
    apply List.map_congr_left
    intro p _
    simp only [Function.comp, key_s]
    by_cases q : p.1 = d <;> simp [q]
  · rw [if_neg h, if_neg h]
    simp [kvsD]
    rfl
theorem lk_append (es : List (Nat × Bool)) (d x : Nat) (b : Bool) (h : lkE d es = none) : lkE x (es ++ [(d, b)]) = if x = d then some b else lkE x es := by
  induction es with
  | nil => simp [lkE]; by_cases q : d = x <;> simp [q]; intro z; exact absurd z.symm q
  | cons p r ih =>
    obtain ⟨k, c⟩ := p
    simp only [List.cons_append, lkE] at h ⊢
    by_cases q : k = d
    · simp [q] at h
    · rw [if_neg q] at h
      rw [ih h]
      by_cases z : k = x
      · have : ¬ x = d := fun y => q (z.trans y)
        simp [z, this]
      · simp [z]
theorem lk_map (es : List (Nat × Bool)) (d x : Nat) (b : Bool) (h : (lkE d es).isSome = true) : lkE x (es.map (fun p => if p.1 = d then (p.1, b) else p)) = if x = d then some b else lkE x es := by
  have key : ∀ es : List (Nat × Bool), lkE x (es.map (fun p => if p.1 = d then (p.1, b) else p)) = if x = d then (lkE d es).map fun _ => b else lkE x es := fun es => by
    induction es with
    | nil => simp [lkE]
    | cons p r ih =>
      obtain ⟨k, c⟩ := p
      by_cases q : k = d
      · subst q
        by_cases z : k = x
        · subst z; simp [lkE]
        · have : ¬ x = k := fun y => z y.symm
          simp only [List.map_cons, if_true, lkE, if_neg z, ih, if_neg this]
      · simp only [List.map_cons, if_neg q, lkE]
        by_cases z : k = x
        · subst z; simp [q]
        · simp only [if_neg z, ih]
  rw [key]
  by_cases z : x = d
  · rw [if_pos z, if_pos z]
    cases q : lkE d es with
    | none => rw [q] at h; cases h
    | some c => rfl
  · rw [if_neg z, if_neg z]
theorem lk_put (es : List (Nat × Bool)) (d x : Nat) (b : Bool) : lkE x (putE es d b) = if x = d then some b else lkE x es := by
  unfold putE
  by_cases h : (lkE d es).isSome = true
  · rw [if_pos h]; exact lk_map es d x b h
  · rw [if_neg h]
    refine lk_append es d x b ?_
    cases q : lkE d es with
    | none => rfl
    | some c => rw [q] at h; exact absurd rfl h
theorem put_len (es : List (Nat × Bool)) (d : Nat) (b : Bool) : (putE es d b).length ≤ es.length + 1 := by
  unfold putE
  by_cases h : (lkE d es).isSome = true
  · rw [if_pos h]; simp
  · rw [if_neg h]; simp
def hasE (es : List (Nat × Bool)) (d : Nat) : Bool := (lkE d es).getD false
theorem get_has (es : List (Nat × Bool)) (d : Nat) (ρ : Rho) : (match lookK (kvsD es) (.inr ⟨#[d]⟩) with
    | some d => R.ok (DV.sh d) ρ
    | none => R.ok (DV.sh (.bool false)) ρ) = R.ok (DV.sh (.bool (hasE es d))) ρ := by
  rw [look_kvs]
  unfold hasE
  cases lkE d es <;> rfl
def pbody : DS := (dSeq (dIfS (dAndT (dTest (dBin eqP (dBin ixP (dV 1) (dC (.int 0))) (dC (.str ("-" : Str))))) (dNotT (dTest (dGet2 (dV 2) (dBin ixP (dV 1) (dC (.int 1))) (dC (.bool false)))))) (dRet (dC (.bool false))) dNext)
    (dSeq (dIfS (dAndT (dTest (dBin inP (dBin ixP (dV 1) (dC (.int 0))) (dC (.str ("+=" : Str))))) (dTest (dGet2 (dV 2) (dBin ixP (dV 1) (dC (.int 1))) (dC (.bool false))))) (dRet (dC (.bool false))) dNext)
    (dIfS (dTest (dBin neP (dV 1) (dC (.str ("." : Str))))) (dPut 2 (dBin ixP (dV 1) (dC (.int 1))) (dBin neP (dBin ixP (dV 1) (dC (.int 0))) (dC (.str ("-" : Str))))) dNext)))
theorem d3 : (Str.ofString "+=") = (⟨#[43, 61]⟩ : Str) := by kernel_rfl
abbrev PR (v0 : Option DV) (l : List Nat) (es : List (Nat × Bool)) : Rho := [v0, some (.sh (strD l)), some (.ow (.dic false (kvsD es))), none]
theorem get2_at (v0 : Option DV) (c d : Nat) (es : List (Nat × Bool)) : dTest (dGet2 (dV 2) (dBin ixP (dV 1) (dC (.int 1))) (dC (.bool false))) (PR v0 [c, d] es) = R.ok (hasE es d) (PR v0 [c, d] es) := by
  have g := get_has es d (PR v0 [c, d] es)
  cases q : lookK (kvsD es) (.inr ⟨#[d]⟩) with
  | none =>
    rw [q] at g
    have g : hasE es d = false := by have : false = hasE es d := by simpa using g
                                     exact this.symm
    simp [dGet2, strD, dicV, dicOwn, keyOf, eqP_ss, neP_ss, eqP_ii, inP_1, Str.length, L2.atI, L2.ixN, bodyM2, bodyF, bodyV, entryM, entryR, entryV, muAt, lstAt, putL, dSeq, dIfS, dExpr, dRet, dSet, putV, dNext, dMut, dSetIx, dCallM, dCall, callR, dB, dSl, pSome, pNone, slP, cutD, ofO, peek, keep, coerce, coerceAll, peekAll, gN, dTest, dBin, dV, dC, dNil, dCons, dTup, dLst, dIf, dNotT, dAndT, dOrT, dNotV, dAndV, dOrV, dM1, dIsi, tyName, isDict, kb1, kb2, kb3, kb4, kb5, kb6, kb7, kb8, kb9, kb10, kb11, kb12, R.bind, addP, subP, mulP, fdivP, modP, powP, ltP, leP, gtP, geP, ixP, intP, absP, lenP, R.bind_ok, R.bind_bad, R.bind_exc, OC.data, plainR, noMut, noMut.go, List.getElem?_cons_zero, List.getElem?_cons_succ, List.set_cons_zero, List.set_cons_succ, List.replicate, q, g]
  | some z =>
    rw [look_kvs] at q
    cases y : lkE d es with
    | none => rw [y] at q; cases q
    | some b =>
      rw [y] at q
      have q : PyData.bool b = z := by simpa using q
      subst q
      have g : hasE es d = b := by unfold hasE; rw [y]; rfl
      have q2 : lookK (kvsD es) (.inr ⟨#[d]⟩) = some (.bool b) := by rw [look_kvs, y]; rfl
      simp [dGet2, strD, dicV, dicOwn, keyOf, eqP_ss, neP_ss, eqP_ii, inP_1, Str.length, L2.atI, L2.ixN, bodyM2, bodyF, bodyV, entryM, entryR, entryV, muAt, lstAt, putL, dSeq, dIfS, dExpr, dRet, dSet, putV, dNext, dMut, dSetIx, dCallM, dCall, callR, dB, dSl, pSome, pNone, slP, cutD, ofO, peek, keep, coerce, coerceAll, peekAll, gN, dTest, dBin, dV, dC, dNil, dCons, dTup, dLst, dIf, dNotT, dAndT, dOrT, dNotV, dAndV, dOrV, dM1, dIsi, tyName, isDict, kb1, kb2, kb3, kb4, kb5, kb6, kb7, kb8, kb9, kb10, kb11, kb12, R.bind, addP, subP, mulP, fdivP, modP, powP, ltP, leP, gtP, geP, ixP, intP, absP, lenP, R.bind_ok, R.bind_bad, R.bind_exc, OC.data, plainR, noMut, noMut.go, List.getElem?_cons_zero, List.getElem?_cons_succ, List.set_cons_zero, List.set_cons_succ, List.replicate, q2, g]
theorem bs1 (c : Nat) : (({ cps := #[c] } : Str) == { cps := #[45] }) = decide (c = 45) := by by_cases h : c = 45 <;> simp [h]
theorem put_at (v0 : Option DV) (c d : Nat) (es : List (Nat × Bool)) (hl : es.length < 100000) : dPut 2 (dBin ixP (dV 1) (dC (.int 1))) (dBin neP (dBin ixP (dV 1) (dC (.int 0))) (dC (.str ("-" : Str)))) (PR v0 [c, d] es) = R.ok .nx (PR v0 [c, d] (putE es d (!decide (c = 45)))) := by
  have hl2 : (kvsD es).length < 100000 := by simpa [kvsD] using hl
  simp [dPut, strD, dicOwn, putDic, keyOf, d1, eqP_ss, neP_ss, eqP_ii, inP_1, Str.length, L2.atI, L2.ixN, bodyM2, bodyF, bodyV, entryM, entryR, entryV, muAt, lstAt, putL, dSeq, dIfS, dExpr, dRet, dSet, putV, dNext, dMut, dSetIx, dCallM, dCall, callR, dB, dSl, pSome, pNone, slP, cutD, ofO, peek, keep, coerce, coerceAll, peekAll, gN, dTest, dBin, dV, dC, dNil, dCons, dTup, dLst, dIf, dNotT, dAndT, dOrT, dNotV, dAndV, dOrV, dM1, dIsi, tyName, isDict, kb1, kb2, kb3, kb4, kb5, kb6, kb7, kb8, kb9, kb10, kb11, kb12, R.bind, addP, subP, mulP, fdivP, modP, powP, ltP, leP, gtP, geP, ixP, intP, absP, lenP, R.bind_ok, R.bind_bad, R.bind_exc, OC.data, plainR, noMut, noMut.go, List.getElem?_cons_zero, List.getElem?_cons_succ, List.set_cons_zero, List.set_cons_succ, List.replicate, put_kvs, hl2, bs1]
theorem pb1 (v0 : Option DV) (c : Nat) (es : List (Nat × Bool)) (hc : c = 46) : pbody (PR v0 [c] es) = .ok .nx (PR v0 [c] es) := by
  subst hc
  simp [pbody, strD, d1, d2, d3, eqP_ss, neP_ss, eqP_ii, inP_1, Str.length, L2.atI, L2.ixN, bodyM2, bodyF, bodyV, entryM, entryR, entryV, muAt, lstAt, putL, dSeq, dIfS, dExpr, dRet, dSet, putV, dNext, dMut, dSetIx, dCallM, dCall, callR, dB, dSl, pSome, pNone, slP, cutD, ofO, peek, keep, coerce, coerceAll, peekAll, gN, dTest, dBin, dV, dC, dNil, dCons, dTup, dLst, dIf, dNotT, dAndT, dOrT, dNotV, dAndV, dOrV, dM1, dIsi, tyName, isDict, kb1, kb2, kb3, kb4, kb5, kb6, kb7, kb8, kb9, kb10, kb11, kb12, R.bind, addP, subP, mulP, fdivP, modP, powP, ltP, leP, gtP, geP, ixP, intP, absP, lenP, R.bind_ok, R.bind_bad, R.bind_exc, OC.data, plainR, noMut, noMut.go, List.getElem?_cons_zero, List.getElem?_cons_succ, List.set_cons_zero, List.set_cons_succ, List.replicate]
theorem pt1 (v0 : Option DV) (c d : Nat) (es : List (Nat × Bool)) : dTest (dBin eqP (dBin ixP (dV 1) (dC (.int 0))) (dC (.str ("-" : Str)))) (PR v0 [c, d] es) = R.ok (decide (c = 45)) (PR v0 [c, d] es) := by
  simp [strD, d1, eqP_ss, neP_ss, eqP_ii, inP_1, Str.length, L2.atI, L2.ixN, bodyM2, bodyF, bodyV, entryM, entryR, entryV, muAt, lstAt, putL, dSeq, dIfS, dExpr, dRet, dSet, putV, dNext, dMut, dSetIx, dCallM, dCall, callR, dB, dSl, pSome, pNone, slP, cutD, ofO, peek, keep, coerce, coerceAll, peekAll, gN, dTest, dBin, dV, dC, dNil, dCons, dTup, dLst, dIf, dNotT, dAndT, dOrT, dNotV, dAndV, dOrV, dM1, dIsi, tyName, isDict, kb1, kb2, kb3, kb4, kb5, kb6, kb7, kb8, kb9, kb10, kb11, kb12, R.bind, addP, subP, mulP, fdivP, modP, powP, ltP, leP, gtP, geP, ixP, intP, absP, lenP, R.bind_ok, R.bind_bad, R.bind_exc, OC.data, plainR, noMut, noMut.go, List.getElem?_cons_zero, List.getElem?_cons_succ, List.set_cons_zero, List.set_cons_succ, List.replicate, bs1]
theorem pt2 (v0 : Option DV) (c d : Nat) (es : List (Nat × Bool)) : dTest (dBin inP (dBin ixP (dV 1) (dC (.int 0))) (dC (.str ("+=" : Str)))) (PR v0 [c, d] es) = R.ok (decide (c = 43 ∨ c = 61)) (PR v0 [c, d] es) := by
  simp [strD, d3, eqP_ss, neP_ss, eqP_ii, inP_1, Str.length, L2.atI, L2.ixN, bodyM2, bodyF, bodyV, entryM, entryR, entryV, muAt, lstAt, putL, dSeq, dIfS, dExpr, dRet, dSet, putV, dNext, dMut, dSetIx, dCallM, dCall, callR, dB, dSl, pSome, pNone, slP, cutD, ofO, peek, keep, coerce, coerceAll, peekAll, gN, dTest, dBin, dV, dC, dNil, dCons, dTup, dLst, dIf, dNotT, dAndT, dOrT, dNotV, dAndV, dOrV, dM1, dIsi, tyName, isDict, kb1, kb2, kb3, kb4, kb5, kb6, kb7, kb8, kb9, kb10, kb11, kb12, R.bind, addP, subP, mulP, fdivP, modP, powP, ltP, leP, gtP, geP, ixP, intP, absP, lenP, R.bind_ok, R.bind_bad, R.bind_exc, OC.data, plainR, noMut, noMut.go, List.getElem?_cons_zero, List.getElem?_cons_succ, List.set_cons_zero, List.set_cons_succ, List.replicate]
theorem pt3 (v0 : Option DV) (c d : Nat) (es : List (Nat × Bool)) : dTest (dBin neP (dV 1) (dC (.str ("." : Str)))) (PR v0 [c, d] es) = R.ok true (PR v0 [c, d] es) := by
  simp [strD, d2, eqP_ss, neP_ss, eqP_ii, inP_1, Str.length, L2.atI, L2.ixN, bodyM2, bodyF, bodyV, entryM, entryR, entryV, muAt, lstAt, putL, dSeq, dIfS, dExpr, dRet, dSet, putV, dNext, dMut, dSetIx, dCallM, dCall, callR, dB, dSl, pSome, pNone, slP, cutD, ofO, peek, keep, coerce, coerceAll, peekAll, gN, dTest, dBin, dV, dC, dNil, dCons, dTup, dLst, dIf, dNotT, dAndT, dOrT, dNotV, dAndV, dOrV, dM1, dIsi, tyName, isDict, kb1, kb2, kb3, kb4, kb5, kb6, kb7, kb8, kb9, kb10, kb11, kb12, R.bind, addP, subP, mulP, fdivP, modP, powP, ltP, leP, gtP, geP, ixP, intP, absP, lenP, R.bind_ok, R.bind_bad, R.bind_exc, OC.data, plainR, noMut, noMut.go, List.getElem?_cons_zero, List.getElem?_cons_succ, List.set_cons_zero, List.set_cons_succ, List.replicate]
theorem pb2 (v0 : Option DV) (c d : Nat) (es : List (Nat × Bool)) (hs : c = 43 ∨ c = 61 ∨ c = 45) (hl : es.length < 100000) : pbody (PR v0 [c, d] es) =
    if (c = 45 ∧ hasE es d = true) ∨ (c ≠ 45 ∧ hasE es d = false) then .ok .nx (PR v0 [c, d] (putE es d (!decide (c = 45)))) else .ok (.rt (.sh (.bool false))) (PR v0 [c, d] es) := by
  unfold pbody
  have e1 : (dAndT (dTest (dBin eqP (dBin ixP (dV 1) (dC (.int 0))) (dC (.str ("-" : Str))))) (dNotT (dTest (dGet2 (dV 2) (dBin ixP (dV 1) (dC (.int 1))) (dC (.bool false)))))) (PR v0 [c, d] es) = R.ok (decide (c = 45) && !hasE es d) (PR v0 [c, d] es) := by
    unfold dAndT dNotT
    rw [pt1, R.bind_ok, get2_at]
    by_cases h : c = 45 <;> simp [h]
  have e2 : (dAndT (dTest (dBin inP (dBin ixP (dV 1) (dC (.int 0))) (dC (.str ("+=" : Str))))) (dTest (dGet2 (dV 2) (dBin ixP (dV 1) (dC (.int 1))) (dC (.bool false))))) (PR v0 [c, d] es) = R.ok (decide (c = 43 ∨ c = 61) && hasE es d) (PR v0 [c, d] es) := by
    unfold dAndT
    rw [pt2, R.bind_ok, get2_at]
    by_cases h : c = 43 ∨ c = 61 <;> simp [h]
  have e4 := put_at v0 c d es hl
  by_cases h : c = 45
  · have n1 : ¬ (c = 43 ∨ c = 61) := by omega
    cases g : hasE es d with
    | false =>
      rw [g] at e1 e2
      simp only [h, n1, decide_true, decide_false, Bool.not_false, Bool.and_true, Bool.false_and] at e1 e2
      rw [h, seq_yes e1]
      simp
    | true =>
      rw [g] at e1 e2
      simp only [n1, decide_false, Bool.not_true, Bool.and_false, Bool.false_and] at e1 e2
      rw [seq_no e1, seq_no e2, if_t (pt3 v0 c d es), e4]
      simp [h]
  · have n1 : c = 43 ∨ c = 61 := by omega
    cases g : hasE es d with
    | false =>
      rw [g] at e1 e2
      simp only [Bool.not_false, Bool.and_false, h, decide_false, Bool.false_and] at e1 e2
      rw [seq_no e1, seq_no e2, if_t (pt3 v0 c d es), e4]
      simp [h]
    | true =>
      rw [g] at e1 e2
      simp only [n1, h, decide_true, decide_false, Bool.not_true, Bool.and_true, Bool.false_and] at e1 e2
      rw [seq_no e1, seq_yes e2]
      simp [h]
structure RelE (es : List (Nat × Bool)) (now : List Nat) : Prop where
  nd : now.Nodup
  mem : ∀ d, d ∈ now ↔ hasE es d = true
theorem RelE.put {es : List (Nat × Bool)} {now : List Nat} (r : RelE es now) {d : Nat} (h : d ∉ now) : RelE (putE es d true) (now ++ [d]) := ⟨by
    rw [List.nodup_append]
    exact ⟨r.nd, by simp, fun a ha b hb => by simp at hb; subst hb; exact fun z => h (z ▸ ha)⟩, fun x => by
    unfold hasE
    rw [lk_put]
    by_cases q : x = d
    · simp [q]
    · have := r.mem x
      unfold hasE at this
      simp [q, this]⟩
theorem RelE.del {es : List (Nat × Bool)} {now : List Nat} (r : RelE es now) {d : Nat} : RelE (putE es d false) (now.erase d) := ⟨r.nd.erase d, fun x => by
    unfold hasE
    rw [lk_put, r.nd.mem_erase_iff]
    by_cases q : x = d
    · simp [q]
    · have := r.mem x
      unfold hasE at this
      simp [q, this]⟩
theorem prog_loop (v0 : Option DV) : ∀ (ls : List (List Nat)) (now : List Nat) (es : List (Nat × Bool)) (x1 : Option DV), ls.all isStepL = true → RelE es now → es.length + ls.length < 100000 →
    (∀ now', run now ls = some now' → ∃ x' es', RelE es' now' ∧ es'.length < 100000 ∧ forD (gN 1) pbody (ls.map strD) [v0, x1, some (.ow (.dic false (kvsD es))), none] = .ok .nx [v0, x', some (.ow (.dic false (kvsD es'))), none]) ∧
    (run now ls = none → ∃ ρ', forD (gN 1) pbody (ls.map strD) [v0, x1, some (.ow (.dic false (kvsD es))), none] = .ok (.rt (.sh (.bool false))) ρ')
  | [], now, es, x1, _, r, hl => ⟨fun now' h => ⟨x1, es, by simp [run] at h; subst h; exact r, by simp at hl; exact hl, rfl⟩, fun h => by simp [run] at h⟩
  | l :: rr, now, es, x1, ha, r, hl => by
    simp only [List.all_cons, Bool.and_eq_true] at ha
    obtain ⟨h1, h2⟩ := ha
    have hlen : es.length < 100000 := by simp at hl; omega
    have step : ∀ (ρ1 : Rho) (o : SO), pbody (PR v0 l es) = .ok o ρ1 → forD (gN 1) pbody ((l :: rr).map strD) [v0, x1, some (.ow (.dic false (kvsD es))), none] = (match o with
        | .nx => forD (gN 1) pbody (rr.map strD) ρ1
        | .ct => forD (gN 1) pbody (rr.map strD) ρ1
        | .bk => .ok .nx ρ1
        | .rt dv => .ok (.rt dv) ρ1) := fun ρ1 o e => by
      show (match gN 1 (strD l) [v0, x1, some (.ow (.dic false (kvsD es))), none] with
        | .ok .nx ρ1 => (pbody ρ1).bind fun o ρ2 => match o with
          | .nx => forD (gN 1) pbody (rr.map strD) ρ2
          | .ct => forD (gN 1) pbody (rr.map strD) ρ2
          | .bk => .ok .nx ρ2
          | .rt dv => .ok (.rt dv) ρ2
        | _ => .bad) = _
      have e0 : gN 1 (strD l) [v0, x1, some (.ow (.dic false (kvsD es))), none] = .ok .nx (PR v0 l es) := rfl
      rw [e0]
      show (pbody (PR v0 l es)).bind _ = _
      rw [e]
      rfl
    match l, h1 with
    | [c], h1 =>
      have hc : c = 46 := by simpa [isStepL] using h1
      have e := step _ _ (pb1 v0 c es hc)
      have ih := prog_loop v0 rr now es (some (.sh (strD [c]))) h2 r (by simp at hl; omega)
      have er : run now ([c] :: rr) = run now rr := by simp [run]
      rw [er]
      refine ⟨fun now' h => ?_, fun h => ?_⟩
      · obtain ⟨x', es', q1, q2, q⟩ := ih.1 now' h
        exact ⟨x', es', q1, q2, by rw [e]; exact q⟩
      · obtain ⟨ρ', q⟩ := ih.2 h
        exact ⟨ρ', by rw [e]; exact q⟩
    | [c, d], h1 =>
      have hs : c = 43 ∨ c = 61 ∨ c = 45 := by simp [isStepL] at h1; omega
      have pb := pb2 v0 c d es hs hlen
      have pl := put_len es d (!decide (c = 45))
      by_cases hc : c = 45
      · subst hc
        by_cases hd : d ∈ now
        · rw [if_pos (.inl ⟨rfl, (r.mem d).mp hd⟩)] at pb
          have e := step _ _ pb
          have ih := prog_loop v0 rr (now.erase d) (putE es d (!decide (45 = 45))) (some (.sh (strD [45, d]))) h2 r.del (by simp at hl pl ⊢; omega)
          have er : run now ([45, d] :: rr) = run (now.erase d) rr := by simp [run, hd]
          rw [er]
          refine ⟨fun now' h => ?_, fun h => ?_⟩
          · obtain ⟨x', es', q1, q2, q⟩ := ih.1 now' h
            exact ⟨x', es', q1, q2, by rw [e]; exact q⟩
          · obtain ⟨ρ', q⟩ := ih.2 h
            exact ⟨ρ', by rw [e]; exact q⟩
        · have hd2 : ¬ hasE es d = true := fun z => hd ((r.mem d).mpr z)
          rw [if_neg (by simp [hd2])] at pb
          have e := step _ _ pb
          have er : run now ([45, d] :: rr) = none := by simp [run, hd]
          rw [er]
          exact ⟨(fun now' h => nomatch h), fun _ => ⟨_, e⟩⟩
      · by_cases hd : d ∈ now
        · have hd2 : hasE es d = true := (r.mem d).mp hd
          rw [if_neg (by simp [hd2, hc])] at pb
          have e := step _ _ pb
          have er : run now ([c, d] :: rr) = none := by simp [run, hd, hc]
          rw [er]
          exact ⟨(fun now' h => nomatch h), fun _ => ⟨_, e⟩⟩
        · have hd2 : hasE es d = false := by
            cases q : hasE es d with
            | false => rfl
            | true => exact absurd ((r.mem d).mpr q) hd
          rw [if_pos (.inr ⟨hc, hd2⟩), show (!decide (c = 45)) = true from by simp [hc]] at pb
          have e := step _ _ pb
          have ih := prog_loop v0 rr (now ++ [d]) (putE es d true) (some (.sh (strD [c, d]))) h2 (r.put hd) (by simp [hc] at hl pl ⊢; omega)
          have er : run now ([c, d] :: rr) = run (now ++ [d]) rr := by simp [run, hd, hc]
          rw [er]
          refine ⟨fun now' h => ?_, fun h => ?_⟩
          · obtain ⟨x', es', q1, q2, q⟩ := ih.1 now' h
            exact ⟨x', es', q1, q2, by rw [e]; exact q⟩
          · obtain ⟨ρ', q⟩ := ih.2 h
            exact ⟨ρ', by rw [e]; exact q⟩
    | [], h1 => simp [isStepL] at h1
    | _ :: _ :: _ :: _, h1 => simp [isStepL] at h1
end G
end

section
set_option Elab.async false
set_option linter.all false
set_option maxRecDepth 100000
set_option maxHeartbeats 1000000
set_option pp.maxSteps 400
namespace G
open PySem PySem.Spec DL DH
theorem lcD_filt {F : List PyData → Option FR} {i : Nat} {ρ : Rho} (hw : ρ[i]? = some none) {r : PyData → Bool} : ∀ (ds acc : List PyData), (∀ d ∈ ds, F [d] = some (.ok (.sh (.bool (r d))))) → acc.length + ds.length ≤ 1000000 →
    lcD (gN i) (dNotT (dTest (dCall F (dCons (dV i) dNil)))) (dV i) [i] ds acc ρ = .ok (acc ++ ds.filter fun d => !r d) ρ
  | [], acc, _, _ => by simp [lcD]
  | d :: ds, acc, h, hl => by
    have hi : i < ρ.length := (List.getElem?_eq_some_iff.mp hw).1
    have h1 := h d List.mem_cons_self
    have hl' : acc.length < 1000000 := by simp at hl; omega
    have e1 : (ρ.set i (some (DV.sh d)))[i]? = some (some (DV.sh d)) := List.getElem?_set_self hi
    have hc : dNotT (dTest (dCall F (dCons (dV i) dNil))) (ρ.set i (some (DV.sh d))) = R.ok (!r d) (ρ.set i (some (DV.sh d))) := by
      simp [dNotT, dTest, dCall, dCons, dV, dNil, R.bind, e1, keep, callR, peekAll, peek, h1, plainR, noMut]
    have hg : gN i d ρ = .ok .nx (ρ.set i (some (.sh d))) := by simp [gN, putV, hi]
    have hv : dV i (ρ.set i (some (DV.sh d))) = R.ok (DV.sh d) (ρ.set i (some (DV.sh d))) := by simp [dV, e1]
    have hw' : wipeR (ρ.set i (some (DV.sh d))) [i] = ρ := by simp [wipeR, set_none hw]
    cases q : r d with
    | true =>
      have ih := lcD_filt hw ds acc (fun x hx => h x (List.mem_cons_of_mem _ hx)) (by simp at hl ⊢; omega)
      rw [q, Bool.not_true] at hc
      unfold lcD
      rw [hg]
      try dsimp only
      rw [hc]
      dsimp only
      rw [hw', ih]
      simp [q]
    | false =>
      have ih := lcD_filt hw ds (acc ++ [d]) (fun x hx => h x (List.mem_cons_of_mem _ hx)) (by simp at hl ⊢; omega)
      rw [q, Bool.not_false] at hc
      unfold lcD
      rw [hg]
      try dsimp only
      rw [hc]
      dsimp only
      rw [hv]
      try dsimp only [coerce]
      rw [if_pos hl', hw', ih]
      simp [q]
theorem keys_ok (es : List (Nat × Bool)) : (kvsD es).all (fun p => (keyOf p.1).isSome) = true := by
  induction es with
  | nil => rfl
  | cons p r ih => exact ih
theorem lcD_load (v0 x1 : Option DV) (es : List (Nat × Bool)) : ∀ (es2 : List (Nat × Bool)) (acc : List PyData), (∀ p ∈ es2, lkE p.1 es ≠ none) → acc.length + es2.length ≤ 1000000 →
    lcD (gN 3) dYes (dLoad (dV 2) (dV 3)) [3] ((kvsD es2).map (·.1)) acc [v0, x1, some (.sh (.dict (kvsD es))), none] = .ok (acc ++ es2.map fun p => .bool (hasE es p.1)) [v0, x1, some (.sh (.dict (kvsD es))), none]
  | [], acc, _, _ => by simp [lcD, kvsD]
  | p :: r, acc, h, hl => by
    have hl' : acc.length < 1000000 := by simp at hl; omega
    have ih := lcD_load v0 x1 es r (acc ++ [.bool (hasE es p.1)]) (fun x hx => h x (List.mem_cons_of_mem _ hx)) (by simp at hl ⊢; omega)
    have hp := h p List.mem_cons_self
    have ne : es ≠ [] := fun z => hp (by rw [z]; rfl)
    have ne2 : kvsD es ≠ [] := by
      cases es with
      | nil => exact absurd rfl ne
      | cons a b => exact fun z => nomatch z
    have hd : dicV [v0, x1, some (DV.sh (.dict (kvsD es))), some (DV.sh (strD [p.1]))] (DV.sh (.dict (kvsD es))) = some (kvsD es) := by
      show (if kvsD es ≠ [] ∧ (kvsD es).all (fun p => (keyOf p.1).isSome) = true then some (kvsD es) else none) = _
      rw [if_pos ⟨ne2, keys_ok es⟩]
    have hk : lookK (kvsD es) (.inr ⟨#[p.1]⟩) = some (.bool (hasE es p.1)) := by
      rw [look_kvs]
      unfold hasE
      cases q : lkE p.1 es with
      | none => exact absurd q hp
      | some b => rfl
    have hδ : dLoad (dV 2) (dV 3) [v0, x1, some (DV.sh (.dict (kvsD es))), some (DV.sh (strD [p.1]))] = R.ok (DV.sh (.bool (hasE es p.1))) [v0, x1, some (DV.sh (.dict (kvsD es))), some (DV.sh (strD [p.1]))] := by
      show (match dicV [v0, x1, some (DV.sh (.dict (kvsD es))), some (DV.sh (strD [p.1]))] (DV.sh (.dict (kvsD es))) with
        | none => R.bad
        | some _ => (R.ok (DV.sh (strD [p.1])) [v0, x1, some (DV.sh (.dict (kvsD es))), some (DV.sh (strD [p.1]))]).bind fun k ρ1 => match dicV ρ1 (DV.sh (.dict (kvsD es))), (peek ρ1 k).bind keyOf with
          | some kvs, some q => match lookK kvs q with
            | some d => R.ok (DV.sh d) ρ1
            | none => R.bad
          | _, _ => R.bad) = _
      rw [hd, R.bind_ok]
      try dsimp only
      rw [hd]
      show (match lookK (kvsD es) (.inr ⟨#[p.1]⟩) with
            | some d => R.ok (DV.sh d) _
            | none => R.bad) = _
      rw [hk]
    have hg : gN 3 (strD [p.1]) [v0, x1, some (.sh (.dict (kvsD es))), none] = .ok .nx [v0, x1, some (.sh (.dict (kvsD es))), some (.sh (strD [p.1]))] := rfl
    show lcD (gN 3) dYes (dLoad (dV 2) (dV 3)) [3] (strD [p.1] :: (kvsD r).map (·.1)) acc _ = _
    unfold lcD
    rw [hg]
    dsimp only [dYes]
    rw [hδ]
    dsimp only [coerce]
    rw [if_pos hl']
    show lcD (gN 3) dYes (dLoad (dV 2) (dV 3)) [3] ((kvsD r).map (·.1)) _ [v0, x1, some (.sh (.dict (kvsD es))), none] = _
    rw [ih]
    simp
theorem lk_self : ∀ (es : List (Nat × Bool)) (p : Nat × Bool), p ∈ es → lkE p.1 es ≠ none
  | (k, b) :: r, p, h => by
    unfold lkE
    by_cases q : k = p.1
    · rw [if_pos q]; exact fun z => nomatch z
    · rw [if_neg q]
      rcases List.mem_cons.mp h with h | h
      · subst h; exact absurd rfl q
      · exact lk_self r p h
theorem lk_mem : ∀ (es : List (Nat × Bool)) (d : Nat), lkE d es ≠ none → ∃ p ∈ es, p.1 = d
  | (k, b) :: r, d, h => by
    unfold lkE at h
    by_cases q : k = d
    · exact ⟨(k, b), List.mem_cons_self, q⟩
    · rw [if_neg q] at h
      obtain ⟨p, h1, h2⟩ := lk_mem r d h
      exact ⟨p, List.mem_cons_of_mem _ h1, h2⟩
theorem any_now {es : List (Nat × Bool)} {now : List Nat} (r : RelE es now) : (es.any fun p => hasE es p.1) = !decide (now = []) := by
  cases now with
  | nil =>
    have : (es.any fun p => hasE es p.1) = false := by
      apply List.any_eq_false.mpr
      intro p _ h
      exact absurd ((r.mem p.1).mpr h) (by simp)
    rw [this]; rfl
  | cons d t =>
    have hd : hasE es d = true := (r.mem d).mp List.mem_cons_self
    have hn : lkE d es ≠ none := fun z => by unfold hasE at hd; rw [z] at hd; cases hd
    obtain ⟨p, h1, h2⟩ := lk_mem es d hn
    have : (es.any fun p => hasE es p.1) = true := List.any_eq_true.mpr ⟨p, h1, by rw [h2]; exact hd⟩
    rw [this]; rfl
theorem notIn_bools {α : Type} (f : α → Bool) (l : List α) : notInP (.bool true) (.list (l.map fun a => .bool (f a))) = some (.sh (.bool (!l.any f))) := by
  have fl : ∀ l : List α, (l.map fun a => PyData.bool (f a)).all flatP = true := fun l => by
    induction l with
    | nil => rfl
    | cons a r ih => exact ih
  have an : ∀ l : List α, ((l.map fun a => PyData.bool (f a)).any fun z => PyData.eqv z (.bool true)) = l.any f := fun l => by
    induction l with
    | nil => rfl
    | cons a r ih =>
      show (PyData.eqv (.bool (f a)) (.bool true) || (r.map fun a => PyData.bool (f a)).any fun z => PyData.eqv z (.bool true)) = _
      rw [ih]
      have : PyData.eqv (.bool (f a)) (.bool true) = f a := by
        show (f a == true) = f a
        cases f a <;> rfl
      rw [this]
      rfl
  unfold notInP
  have : inB (.bool true) (.list (l.map fun a => .bool (f a))) = some (l.any f) := by
    show (if ((flatP (.bool true) && (l.map fun a => PyData.bool (f a)).all flatP) || _) = true then some _ else none) = _
    rw [fl, an]
    rfl
  rw [this]
  rfl
theorem is_program_spec (ls : List (List Nat)) (h1 : ∀ l ∈ ls, l.length ≤ 1000000) (h3 : ∀ l ∈ ls, okL l) (h2 : ls.length < 50000) : F_law_is_program [.tuple (ls.map strD)] = some (.ok (.sh (.bool (goodL ls)))) := by
  let ρ0 : Rho := [some (.sh (.tuple (ls.map strD))), none, none, none]
  have hcall : ∀ d ∈ ls.map strD, F_law_is_step [d] = some (.ok (.sh (.bool ((match d with | .str z => isStepL z.cps.toList | _ => false))))) := fun d hd => by
    obtain ⟨l, hl, rfl⟩ := List.mem_map.mp hd
    exact law_is_step_str l (h1 l hl)
  have t1 : dTest (dIsi "tuple" (dV 0)) ρ0 = .ok true ρ0 := by
    simp [ρ0, eqP_ss, neP_ss, eqP_ii, inP_1, Str.length, L2.atI, L2.ixN, bodyM2, bodyF, bodyV, entryM, entryR, entryV, muAt, lstAt, putL, dSeq, dIfS, dExpr, dRet, dSet, putV, dNext, dMut, dSetIx, dCallM, dCall, callR, dB, dSl, pSome, pNone, slP, cutD, ofO, peek, keep, coerce, coerceAll, peekAll, gN, dTest, dBin, dV, dC, dNil, dCons, dTup, dLst, dIf, dNotT, dAndT, dOrT, dNotV, dAndV, dOrV, dM1, dIsi, tyName, isDict, kb1, kb2, kb3, kb4, kb5, kb6, kb7, kb8, kb9, kb10, kb11, kb12, R.bind, addP, subP, mulP, fdivP, modP, powP, ltP, leP, gtP, geP, ixP, intP, absP, lenP, R.bind_ok, R.bind_bad, R.bind_exc, OC.data, plainR, noMut, noMut.go, List.getElem?_cons_zero, List.getElem?_cons_succ, List.set_cons_zero, List.set_cons_succ, List.replicate]
  have t2 : dTest (dBin gtP (dB lenP (dCons (dV 0) dNil)) (dC (.int 16))) ρ0 = .ok (decide (16 < ls.length)) ρ0 := by
    have q : ((16 : Int) < (ls.length : Int)) ↔ 16 < ls.length := by omega
    simp [ρ0, eqP_ss, neP_ss, eqP_ii, inP_1, Str.length, L2.atI, L2.ixN, bodyM2, bodyF, bodyV, entryM, entryR, entryV, muAt, lstAt, putL, dSeq, dIfS, dExpr, dRet, dSet, putV, dNext, dMut, dSetIx, dCallM, dCall, callR, dB, dSl, pSome, pNone, slP, cutD, ofO, peek, keep, coerce, coerceAll, peekAll, gN, dTest, dBin, dV, dC, dNil, dCons, dTup, dLst, dIf, dNotT, dAndT, dOrT, dNotV, dAndV, dOrV, dM1, dIsi, tyName, isDict, kb1, kb2, kb3, kb4, kb5, kb6, kb7, kb8, kb9, kb10, kb11, kb12, R.bind, addP, subP, mulP, fdivP, modP, powP, ltP, leP, gtP, geP, ixP, intP, absP, lenP, R.bind_ok, R.bind_bad, R.bind_exc, OC.data, plainR, noMut, noMut.go, List.getElem?_cons_zero, List.getElem?_cons_succ, List.set_cons_zero, List.set_cons_succ, List.replicate, q]
  have c1 : (dOrT (dNotT (dTest (dIsi "tuple" (dV 0)))) (dTest (dBin gtP (dB lenP (dCons (dV 0) dNil)) (dC (.int 16))))) ρ0 = .ok (!decide (ls.length ≤ 16)) ρ0 := by
    unfold dOrT dNotT
    simp only [t1, t2, R.bind_ok]
    by_cases q : 16 < ls.length
    · have q2 : ¬ ls.length ≤ 16 := by omega
      simp [q, q2, t2]
    · have q2 : ls.length ≤ 16 := by omega
      simp [q, q2, t2]
  have c2 : dTest (dBin neP (dLc (iTupD (dV 0)) (gN 1) (dNotT (dTest (dCall F_law_is_step (dCons (dV 1) dNil)))) (dV 1) [1]) (dLst dNil)) ρ0 = .ok (!ls.all isStepL) ρ0 := by
    have e := lcD_filt (F := F_law_is_step) (i := 1) (ρ := ρ0) rfl (ls.map strD) [] hcall (by simp; omega)
    have e' : (ls.map strD).filter (fun d => !(match d with | .str z => isStepL z.cps.toList | _ => false)) = (ls.filter fun l => !isStepL l).map strD := by
      rw [List.filter_map]
      rfl
    rw [e', List.nil_append] at e
    have e2 : dLc (iTupD (dV 0)) (gN 1) (dNotT (dTest (dCall F_law_is_step (dCons (dV 1) dNil)))) (dV 1) [1] ρ0 = R.ok (DV.ow (.lst ((ls.filter fun l => !isStepL l).map strD))) ρ0 := by
      show (match lcD (gN 1) (dNotT (dTest (dCall F_law_is_step (dCons (dV 1) dNil)))) (dV 1) [1] (ls.map strD) [] ρ0 with
        | R.ok zs ρ2 => R.ok (DV.ow (.lst zs)) (restoreR ρ2 ρ0 [1])
        | _ => R.bad) = _
      rw [e]
      rfl
    generalize dLc (iTupD (dV 0)) (gN 1) (dNotT (dTest (dCall F_law_is_step (dCons (dV 1) dNil)))) (dV 1) [1] = δ at e2 ⊢
    have ne := neP_ll (ls := ls.filter fun l => !isStepL l) (ms := []) (fun l hl => h3 l (List.mem_filter.mp hl).1) (fun l hl => nomatch hl)
    have al : (!decide ((ls.filter fun l => !isStepL l) = [])) = !ls.all isStepL := by
      congr 1
      rw [Bool.eq_iff_iff]
      simp [List.filter_eq_nil_iff]
    rw [al] at ne
    simp only [List.map_nil] at ne
    simp [eqP_ss, neP_ss, eqP_ii, inP_1, Str.length, L2.atI, L2.ixN, bodyM2, bodyF, bodyV, entryM, entryR, entryV, muAt, lstAt, putL, dSeq, dIfS, dExpr, dRet, dSet, putV, dNext, dMut, dSetIx, dCallM, dCall, callR, dB, dSl, pSome, pNone, slP, cutD, ofO, peek, keep, coerce, coerceAll, peekAll, gN, dTest, dBin, dV, dC, dNil, dCons, dTup, dLst, dIf, dNotT, dAndT, dOrT, dNotV, dAndV, dOrV, dM1, dIsi, tyName, isDict, kb1, kb2, kb3, kb4, kb5, kb6, kb7, kb8, kb9, kb10, kb11, kb12, R.bind, addP, subP, mulP, fdivP, modP, powP, ltP, leP, gtP, geP, ixP, intP, absP, lenP, R.bind_ok, R.bind_bad, R.bind_exc, OC.data, plainR, noMut, noMut.go, List.getElem?_cons_zero, List.getElem?_cons_succ, List.set_cons_zero, List.set_cons_succ, List.replicate, e2, ne]
  rw [show F_law_is_program [.tuple (ls.map strD)] = bodyF 4 d_law_is_program [.tuple (ls.map strD)] from rfl, bodyF_fin]
  show fin (dSeq (dIfS (dOrT (dNotT (dTest (dIsi "tuple" (dV 0)))) (dTest (dBin gtP (dB lenP (dCons (dV 0) dNil)) (dC (.int 16))))) (dRet (dC (.bool false))) dNext)
    (dSeq (dIfS (dTest (dBin neP (dLc (iTupD (dV 0)) (gN 1) (dNotT (dTest (dCall F_law_is_step (dCons (dV 1) dNil)))) (dV 1) [1]) (dLst dNil))) (dRet (dC (.bool false))) dNext)
    (dSeq (dSet 2 dDicK) (dSeq (dFor (iTupD (dV 0)) (gN 1) pbody) (dRet (dBin notInP (dC (.bool true)) (dLcK 2 (gN 3) dYes (dLoad (dV 2) (dV 3)) [3])))))) ρ0) = _
  unfold goodL
  by_cases g0 : ls.length ≤ 16
  · have q0 : (!decide (ls.length ≤ 16)) = false := by simp [g0]
    rw [q0] at c1
    rw [seq_no c1]
    by_cases g1 : ls.all isStepL = true
    · rw [g1] at c2
      rw [seq_no c2]
      have lp := prog_loop (some (.sh (.tuple (ls.map strD)))) ls [] [] none g1 ⟨List.nodup_nil, fun d => by simp [hasE, lkE]⟩ (by simp; omega)
      have s2 : dSet 2 dDicK ρ0 = .ok .nx [some (.sh (.tuple (ls.map strD))), none, some (.ow (.dic false (kvsD []))), none] := rfl
      have it : iTupD (dV 0) [some (.sh (.tuple (ls.map strD))), none, some (.ow (.dic false (kvsD []))), none] = .ok (ls.map strD) [some (.sh (.tuple (ls.map strD))), none, some (.ow (.dic false (kvsD []))), none] := rfl
      rw [seq_nx s2]
      cases q : run [] ls with
      | none =>
        obtain ⟨ρ', e⟩ := lp.2 q
        rw [seq_rt ((for_by it).trans e)]
        simp [g0, g1, fin]
      | some now' =>
        obtain ⟨x', es', r, hl, e⟩ := lp.1 now' q
        rw [seq_nx ((for_by it).trans e)]
        have e7 := lcD_load (some (.sh (.tuple (ls.map strD)))) x' es' es' [] (fun p hp => lk_self es' p hp) (by simp; omega)
        have e8 : dLcK 2 (gN 3) dYes (dLoad (dV 2) (dV 3)) [3] [some (.sh (.tuple (ls.map strD))), x', some (.ow (.dic false (kvsD es'))), none] = R.ok (DV.ow (.lst (es'.map fun p => .bool (hasE es' p.1)))) [some (.sh (.tuple (ls.map strD))), x', some (.sh (.dict (kvsD es'))), none] := by
          show (match lcD (gN 3) dYes (dLoad (dV 2) (dV 3)) [3] ((kvsD es').map (·.1)) [] [some (.sh (.tuple (ls.map strD))), x', some (.sh (.dict (kvsD es'))), none] with
            | R.ok zs ρ2 => R.ok (DV.ow (.lst zs)) (restoreR ρ2 [some (.sh (.tuple (ls.map strD))), x', some (.sh (.dict (kvsD es'))), none] [3])
            | _ => R.bad) = _
          rw [e7]
          rfl
        generalize dLcK 2 (gN 3) dYes (dLoad (dV 2) (dV 3)) [3] = δ at e8 ⊢
        have ni := notIn_bools (fun p : Nat × Bool => hasE es' p.1) es'
        rw [any_now r, Bool.not_not] at ni
        have e9 : dRet (dBin notInP (dC (.bool true)) δ) [some (.sh (.tuple (ls.map strD))), x', some (.ow (.dic false (kvsD es'))), none] = R.ok (.rt (.sh (.bool (decide (now' = []))))) [some (.sh (.tuple (ls.map strD))), x', some (.sh (.dict (kvsD es'))), none] := by
          simp [eqP_ss, neP_ss, eqP_ii, inP_1, Str.length, L2.atI, L2.ixN, bodyM2, bodyF, bodyV, entryM, entryR, entryV, muAt, lstAt, putL, dSeq, dIfS, dExpr, dRet, dSet, putV, dNext, dMut, dSetIx, dCallM, dCall, callR, dB, dSl, pSome, pNone, slP, cutD, ofO, peek, keep, coerce, coerceAll, peekAll, gN, dTest, dBin, dV, dC, dNil, dCons, dTup, dLst, dIf, dNotT, dAndT, dOrT, dNotV, dAndV, dOrV, dM1, dIsi, tyName, isDict, kb1, kb2, kb3, kb4, kb5, kb6, kb7, kb8, kb9, kb10, kb11, kb12, R.bind, addP, subP, mulP, fdivP, modP, powP, ltP, leP, gtP, geP, ixP, intP, absP, lenP, R.bind_ok, R.bind_bad, R.bind_exc, OC.data, plainR, noMut, noMut.go, List.getElem?_cons_zero, List.getElem?_cons_succ, List.set_cons_zero, List.set_cons_succ, List.replicate, e8, ni]
        rw [e9]
        by_cases z : now' = [] <;> simp [z, fin, g0, g1]
    · have g1' : ls.all isStepL = false := by simpa using g1
      rw [g1'] at c2 ⊢
      rw [seq_yes c2]
      simp [fin]
  · have q0 : (!decide (ls.length ≤ 16)) = true := by simp [g0]
    rw [q0] at c1
    rw [seq_yes c1]
    simp [fin, g0]
end G
end

section
set_option Elab.async false
set_option linter.all false
set_option maxRecDepth 100000
set_option maxHeartbeats 1000000
set_option pp.maxSteps 400
namespace G
open PySem PySem.Spec DL DH
/-! ### joined and split at spaces -/
def jn : List (List Nat) → List Nat
  | [] => []
  | [l] => l
  | l :: m :: r => l ++ 32 :: jn (m :: r)
def spl : List Nat → List (List Nat)
  | [] => [[]]
  | c :: r => if c = 32 then [] :: spl r else match spl r with
    | [] => [[c]]
    | h :: t => (c :: h) :: t
theorem spl_cons (c : Nat) (r : List Nat) : spl (c :: r) = if c = 32 then [] :: spl r else match spl r with
    | [] => [[c]]
    | h :: t => (c :: h) :: t := by rw [spl]
def mkS (l : List Nat) : Str := ⟨⟨l⟩⟩
theorem join_jn : ∀ ls : List (List Nat), (Str.join ⟨#[32]⟩ (ls.map mkS)).cps.toList = jn ls
  | [] => rfl
  | [l] => rfl
  | l :: m :: r => by
    have ih := join_jn (m :: r)
    show (mkS l ++ ⟨#[32]⟩ ++ Str.join ⟨#[32]⟩ ((m :: r).map mkS)).cps.toList = _
    rw [Str.cps_append, Str.cps_append, Array.toList_append, Array.toList_append, ih]
    simp [jn, mkS]
theorem spl_free : ∀ l : List Nat, 32 ∉ l → spl l = [l]
  | [], _ => rfl
  | c :: r, h => by
    have h1 : c ≠ 32 := fun z => h (by simp [z])
    have h2 : 32 ∉ r := fun z => h (List.mem_cons_of_mem _ z)
    unfold spl
    rw [if_neg h1, spl_free r h2]
theorem spl_app (y : List Nat) : ∀ l : List Nat, 32 ∉ l → spl (l ++ 32 :: y) = l :: spl y
  | [], _ => by simp [spl]
  | c :: r, h => by
    have h1 : c ≠ 32 := fun z => h (by simp [z])
    have h2 : 32 ∉ r := fun z => h (List.mem_cons_of_mem _ z)
    show spl (c :: (r ++ 32 :: y)) = _
    rw [spl_cons, if_neg h1, spl_app y r h2]
theorem spl_jn : ∀ ls : List (List Nat), ls ≠ [] → (∀ l ∈ ls, 32 ∉ l) → spl (jn ls) = ls
  | [], h, _ => absurd rfl h
  | [l], _, h => spl_free l (h l List.mem_cons_self)
  | l :: m :: r, _, h => by
    show spl (l ++ 32 :: jn (m :: r)) = _
    rw [spl_app _ l (h l List.mem_cons_self), spl_jn (m :: r) (fun z => nomatch z) fun x hx => h x (List.mem_cons_of_mem _ hx)]
theorem mkS_toList (x : Str) : mkS x.cps.toList = x := rfl
theorem split_spl (x : Str) : Txt.split x ⟨#[32]⟩ = (spl x.cps.toList).map mkS := by
  have e1 : ((Txt.split x ⟨#[32]⟩).map fun p => p.cps.toList).map mkS = Txt.split x ⟨#[32]⟩ := by
    rw [List.map_map]
    exact List.map_id'' (fun p => rfl) _
  have e2 : jn ((Txt.split x ⟨#[32]⟩).map fun p => p.cps.toList) = x.cps.toList := by
    rw [← join_jn, e1, StrLaws.join_split]
  have ne : (Txt.split x ⟨#[32]⟩).map (fun p => p.cps.toList) ≠ [] := fun z => by
    have := PyProof.Rows.split_pos x ⟨#[32]⟩
    rw [List.map_eq_nil_iff] at z
    rw [z] at this
    exact absurd this (by decide)
  have fr : ∀ l ∈ (Txt.split x ⟨#[32]⟩).map (fun p => p.cps.toList), 32 ∉ l := fun l hl => by
    obtain ⟨p, hp, rfl⟩ := List.mem_map.mp hl
    exact StrLaws.split_free x 32 p hp
  rw [← e2, spl_jn _ ne fr, e1]
def szL (ls : List (List Nat)) : Nat := (ls.map List.length).sum + ls.length
theorem spl_sz : ∀ z : List Nat, szL (spl z) = z.length + 1
  | [] => rfl
  | c :: r => by
    have ih := spl_sz r
    unfold spl
    by_cases h : c = 32
    · rw [if_pos h]
      unfold szL at ih ⊢
      simp
      omega
    · rw [if_neg h]
      cases q : spl r with
      | nil => rw [q] at ih; simp [szL] at ih
      | cons a t =>
        rw [q] at ih
        unfold szL at ih ⊢
        simp at ih ⊢
        omega
theorem sz_mem : ∀ {ls : List (List Nat)} {l : List Nat}, l ∈ ls → l.length + 1 ≤ szL ls
  | a :: r, l, h => by
    rcases List.mem_cons.mp h with h | h
    · subst h; simp [szL]; omega
    · have := sz_mem h
      unfold szL at this ⊢
      simp
      omega
theorem sz_len (ls : List (List Nat)) : ls.length ≤ szL ls := by unfold szL; omega
theorem spl_mem : ∀ (z l : List Nat), l ∈ spl z → ∀ c ∈ l, c ∈ z
  | [], l, h, c, hc => by simp [spl] at h; subst h; cases hc
  | a :: r, l, h, c, hc => by
    unfold spl at h
    by_cases q : a = 32
    · rw [if_pos q] at h
      rcases List.mem_cons.mp h with h | h
      · subst h; cases hc
      · exact List.mem_cons_of_mem _ (spl_mem r l h c hc)
    · rw [if_neg q] at h
      cases e : spl r with
      | nil => rw [e] at h; simp at h; subst h; simp at hc; subst hc; exact List.mem_cons_self
      | cons b t =>
        rw [e] at h
        rcases List.mem_cons.mp h with h | h
        · subst h
          rcases List.mem_cons.mp hc with hc | hc
          · subst hc; exact List.mem_cons_self
          · exact List.mem_cons_of_mem _ (spl_mem r b (by rw [e]; exact List.mem_cons_self) c hc)
        · exact List.mem_cons_of_mem _ (spl_mem r l (by rw [e]; exact List.mem_cons_of_mem _ h) c hc)
theorem spc : (Str.ofString " ") = (⟨#[32]⟩ : Str) := by kernel_rfl
def nothL : List Nat := [110, 111, 116, 104, 105, 110, 103]
theorem noth : (Str.ofString "nothing") = mkS nothL := by kernel_rfl
theorem strL_strs : ∀ ls : List (List Nat), strL (ls.map strD) = some (ls.map mkS)
  | [] => rfl
  | l :: r => by
    have ih := strL_strs r
    show (strL (r.map strD)).map _ = _
    rw [ih]
    rfl
theorem splitP_z (z : List Nat) (h : z.length ≤ 1000000) : splitP (strD z) (.str (Str.ofString " ")) = some (.ow (.lst ((spl z).map strD))) := by
  rw [spc]
  show (if (⟨#[32]⟩ : Str).length ≠ 0 ∧ (mkS z).length ≤ 1000000 then some (DV.ow (.lst ((Txt.split (mkS z) ⟨#[32]⟩).map .str))) else none) = _
  have h2 : (mkS z).length ≤ 1000000 := h
  rw [if_pos ⟨by decide, h2⟩, split_spl]
  rw [List.map_map]
  rfl
theorem joinB_ls (ls : List (List Nat)) (h : szL ls ≤ 16777216) : joinB ⟨#[32]⟩ (ls.map mkS) = some (.sh (strD (jn ls))) := by
  unfold joinB
  have e : ((ls.map mkS).map (·.length)).sum + (ls.map mkS).length * (⟨#[32]⟩ : Str).length ≤ 16777216 := by
    rw [List.map_map, List.length_map]
    show (ls.map List.length).sum + ls.length * 1 ≤ _
    unfold szL at h
    omega
  rw [if_pos e]
  have : Txt.join ⟨#[32]⟩ (ls.map mkS) = mkS (jn ls) := by
    rw [show Txt.join ⟨#[32]⟩ (ls.map mkS) = Builtin.Str.glued ⟨#[32]⟩ (ls.map mkS) from rfl, StrLaws.glued_eq_join, ← join_jn]
    rfl
  rw [this]
  rfl
theorem joinP_t (ls : List (List Nat)) (h : szL ls ≤ 16777216) : joinP (.str (Str.ofString " ")) (.tuple (ls.map strD)) = some (.sh (strD (jn ls))) := by
  rw [spc]
  show (strL (ls.map strD)).bind (joinB ⟨#[32]⟩) = _
  rw [strL_strs]
  exact joinB_ls ls h
theorem joinP_l (ls : List (List Nat)) (h : szL ls ≤ 16777216) : joinP (.str (Str.ofString " ")) (.list (ls.map strD)) = some (.sh (strD (jn ls))) := by
  rw [spc]
  show (strL (ls.map strD)).bind (joinB ⟨#[32]⟩) = _
  rw [strL_strs]
  exact joinB_ls ls h
def progL (z : List Nat) : List (List Nat) := if z = nothL then [] else spl z
def textL (ls : List (List Nat)) : List Nat := if ls = [] then nothL else jn ls
theorem good_parts {ls : List (List Nat)} (h : goodL ls = true) : ls.length ≤ 16 ∧ (∀ l ∈ ls, isStepL l = true) ∧ run [] ls = some [] := by
  unfold goodL at h
  simp only [Bool.and_eq_true, decide_eq_true_eq] at h
  exact ⟨h.1.1, List.all_eq_true.mp h.1.2, h.2⟩
theorem step_len {l : List Nat} (h : isStepL l = true) : l.length ≤ 2 ∧ 32 ∉ l ∧ l ≠ [] := by
  match l, h with
  | [a], h => simp [isStepL] at h; subst h; decide
  | [a, d], h =>
    simp [isStepL] at h
    refine ⟨by simp, fun z => ?_, fun z => nomatch z⟩
    simp at z
    omega
theorem sz_good : ∀ {ls : List (List Nat)}, (∀ l ∈ ls, isStepL l = true) → szL ls ≤ 3 * ls.length
  | [], _ => by simp [szL]
  | a :: r, h => by
    have ih := sz_good fun x hx => h x (List.mem_cons_of_mem _ hx)
    have := (step_len (h a List.mem_cons_self)).1
    unfold szL at ih ⊢
    simp at ih ⊢
    omega
theorem prog_text {ls : List (List Nat)} (h : goodL ls = true) : progL (textL ls) = ls := by
  obtain ⟨h1, h2, h3⟩ := good_parts h
  unfold progL textL
  by_cases e : ls = []
  · rw [if_pos e, if_pos rfl, e]
  · rw [if_neg e]
    have sj := spl_jn ls e fun l hl => (step_len (h2 l hl)).2.1
    by_cases q : jn ls = nothL
    · rw [q] at sj
      have : ls = [nothL] := by rw [← sj]; decide
      have := h2 nothL (by rw [this]; exact List.mem_cons_self)
      exact absurd this (by decide)
    · rw [if_neg q, sj]
theorem jn_len : ∀ ls : List (List Nat), (jn ls).length ≤ szL ls
  | [] => by simp [jn, szL]
  | [l] => by simp [jn, szL]
  | l :: m :: r => by
    have ih := jn_len (m :: r)
    unfold szL at ih ⊢
    simp [jn] at ih ⊢
    omega
theorem text_len {ls : List (List Nat)} (h : goodL ls = true) : (textL ls).length ≤ 48 := by
  obtain ⟨h1, h2, h3⟩ := good_parts h
  unfold textL
  by_cases e : ls = []
  · rw [if_pos e]; decide
  · rw [if_neg e]
    have := jn_len ls
    have := sz_good h2
    omega
theorem jn_mem : ∀ (ls : List (List Nat)) (c : Nat), c ∈ jn ls → c = 32 ∨ ∃ l ∈ ls, c ∈ l
  | [], c, h => by cases h
  | [l], c, h => .inr ⟨l, List.mem_cons_self, h⟩
  | l :: m :: r, c, h => by
    rcases List.mem_append.mp (show c ∈ l ++ 32 :: jn (m :: r) from h) with h | h
    · exact .inr ⟨l, List.mem_cons_self, h⟩
    · rcases List.mem_cons.mp h with h | h
      · exact .inl h
      · rcases jn_mem (m :: r) c h with h | ⟨x, h1, h2⟩
        · exact .inl h
        · exact .inr ⟨x, List.mem_cons_of_mem _ h1, h2⟩
theorem text_ok {ls : List (List Nat)} (h : goodL ls = true) : okL (textL ls) := by
  obtain ⟨h1, h2, h3⟩ := good_parts h
  unfold textL
  by_cases e : ls = []
  · rw [if_pos e]; unfold okL nothL; decide
  · rw [if_neg e]
    intro c hc
    rcases jn_mem ls c hc with h | ⟨l, hl, hc⟩
    · omega
    · exact step_ok (h2 l hl) c hc
theorem prog_ok {z : List Nat} (h : okL z) : ∀ l ∈ progL z, okL l := by
  intro l hl
  unfold progL at hl
  by_cases e : z = nothL
  · rw [if_pos e] at hl; cases hl
  · rw [if_neg e] at hl
    exact fun c hc => h c (spl_mem z l hl c hc)
theorem prog_len {z : List Nat} : (progL z).length ≤ z.length + 1 ∧ ∀ l ∈ progL z, l.length ≤ z.length := by
  unfold progL
  by_cases e : z = nothL
  · rw [if_pos e]; exact ⟨by simp, fun l hl => nomatch hl⟩
  · rw [if_neg e]
    have h1 := spl_sz z
    have h2 := sz_len (spl z)
    exact ⟨by omega, fun l hl => by have := sz_mem hl; omega⟩
end G
end

section
set_option Elab.async false
set_option linter.all false
set_option maxRecDepth 100000
set_option maxHeartbeats 1000000
set_option pp.maxSteps 400
namespace G
open PySem PySem.Spec DL DH
theorem neP_tn {ls : List (List Nat)} (h1 : ∀ l ∈ ls, okL l) : neP (.tuple (ls.map strD)) (.tuple []) = some (.sh (.bool (!decide (ls = [])))) := neP_tt (ms := []) h1 (fun l hl => nomatch hl)
theorem need_spec (ls : List (List Nat)) (h1 : ∀ l ∈ ls, l.length ≤ 1000000) (h2 : ls.length < 1000000) : F_need_program [.tuple (ls.map strD)] = if goodL ls = true then some (.ok (.sh .none)) else some (.exc "InvalidProgram") := by
  have g := is_good_spec ls h1 h2
  have c : dNotT (dTest (dCall F_is_good (dCons (dV 0) dNil))) [some (.sh (.tuple (ls.map strD)))] = R.ok (!goodL ls) [some (.sh (.tuple (ls.map strD)))] := by
    simp [eqP_ss, neP_ss, eqP_ii, inP_1, Str.length, L2.atI, L2.ixN, bodyM2, bodyF, bodyV, entryM, entryR, entryV, muAt, lstAt, putL, dSeq, dIfS, dExpr, dRet, dSet, putV, dNext, dMut, dSetIx, dCallM, dCall, callR, dB, dSl, pSome, pNone, slP, cutD, ofO, peek, keep, coerce, coerceAll, peekAll, gN, dTest, dBin, dV, dC, dNil, dCons, dTup, dLst, dIf, dNotT, dAndT, dOrT, dNotV, dAndV, dOrV, dM1, dIsi, tyName, isDict, kb1, kb2, kb3, kb4, kb5, kb6, kb7, kb8, kb9, kb10, kb11, kb12, R.bind, addP, subP, mulP, fdivP, modP, powP, ltP, leP, gtP, geP, ixP, intP, absP, lenP, R.bind_ok, R.bind_bad, R.bind_exc, OC.data, plainR, noMut, noMut.go, List.getElem?_cons_zero, List.getElem?_cons_succ, List.set_cons_zero, List.set_cons_succ, List.replicate, g]
  rw [show F_need_program [.tuple (ls.map strD)] = bodyF 1 d_need_program [.tuple (ls.map strD)] from rfl, bodyF_fin]
  show fin (d_need_program [some (.sh (.tuple (ls.map strD)))]) = _
  unfold d_need_program
  cases q : goodL ls with
  | true =>
    rw [q] at c
    rw [if_f c]
    rfl
  | false =>
    rw [q] at c
    rw [if_t c]
    rfl
theorem text_spec (ls : List (List Nat)) (h1 : ∀ l ∈ ls, okL l) (h2 : szL ls ≤ 16777216) : F_text_of [.tuple (ls.map strD)] = some (.ok (.sh (strD (textL ls)))) := by
  have n := neP_tn h1
  have j := joinP_t ls h2
  rw [show F_text_of [.tuple (ls.map strD)] = bodyF 1 d_text_of [.tuple (ls.map strD)] from rfl, bodyF_fin]
  show fin (d_text_of [some (.sh (.tuple (ls.map strD)))]) = _
  have e : (dIf (dTest (dBin neP (dV 0) (dTup dNil))) (dM1 joinP (dC (.str (" " : Str))) (dV 0)) (dC (.str ("nothing" : Str)))) [some (.sh (.tuple (ls.map strD)))] = R.ok (DV.sh (strD (textL ls))) [some (.sh (.tuple (ls.map strD)))] := by
    unfold textL
    by_cases q : ls = []
    · rw [if_pos q]
      simp [eqP_ss, neP_ss, eqP_ii, inP_1, Str.length, L2.atI, L2.ixN, bodyM2, bodyF, bodyV, entryM, entryR, entryV, muAt, lstAt, putL, dSeq, dIfS, dExpr, dRet, dSet, putV, dNext, dMut, dSetIx, dCallM, dCall, callR, dB, dSl, pSome, pNone, slP, cutD, ofO, peek, keep, coerce, coerceAll, peekAll, gN, dTest, dBin, dV, dC, dNil, dCons, dTup, dLst, dIf, dNotT, dAndT, dOrT, dNotV, dAndV, dOrV, dM1, dIsi, tyName, isDict, kb1, kb2, kb3, kb4, kb5, kb6, kb7, kb8, kb9, kb10, kb11, kb12, R.bind, addP, subP, mulP, fdivP, modP, powP, ltP, leP, gtP, geP, ixP, intP, absP, lenP, R.bind_ok, R.bind_bad, R.bind_exc, OC.data, plainR, noMut, noMut.go, List.getElem?_cons_zero, List.getElem?_cons_succ, List.set_cons_zero, List.set_cons_succ, List.replicate, n, q, noth]
      rfl
    · rw [if_neg q]
      simp [eqP_ss, neP_ss, eqP_ii, inP_1, Str.length, L2.atI, L2.ixN, bodyM2, bodyF, bodyV, entryM, entryR, entryV, muAt, lstAt, putL, dSeq, dIfS, dExpr, dRet, dSet, putV, dNext, dMut, dSetIx, dCallM, dCall, callR, dB, dSl, pSome, pNone, slP, cutD, ofO, peek, keep, coerce, coerceAll, peekAll, gN, dTest, dBin, dV, dC, dNil, dCons, dTup, dLst, dIf, dNotT, dAndT, dOrT, dNotV, dAndV, dOrV, dM1, dIsi, tyName, isDict, kb1, kb2, kb3, kb4, kb5, kb6, kb7, kb8, kb9, kb10, kb11, kb12, R.bind, addP, subP, mulP, fdivP, modP, powP, ltP, leP, gtP, geP, ixP, intP, absP, lenP, R.bind_ok, R.bind_bad, R.bind_exc, OC.data, plainR, noMut, noMut.go, List.getElem?_cons_zero, List.getElem?_cons_succ, List.set_cons_zero, List.set_cons_succ, List.replicate, n, q, j]
  have e2 : d_text_of [some (.sh (.tuple (ls.map strD)))] = R.ok (.rt (.sh (strD (textL ls)))) [some (.sh (.tuple (ls.map strD)))] := by
    unfold d_text_of dRet
    rw [e]
    rfl
  rw [e2]
  rfl
theorem program_text_spec (ls : List (List Nat)) (h1 : ∀ l ∈ ls, l.length ≤ 1000000) (h2 : ls.length < 1000000) (h3 : ∀ l ∈ ls, okL l) (h4 : szL ls ≤ 16777216) : F_program_text [.tuple (ls.map strD)] = if goodL ls = true then some (.ok (.sh (strD (textL ls)))) else some (.exc "InvalidProgram") := by
  have g := need_spec ls h1 h2
  have t := text_spec ls h3 h4
  rw [show F_program_text [.tuple (ls.map strD)] = bodyF 1 d_program_text [.tuple (ls.map strD)] from rfl, bodyF_fin]
  show fin (d_program_text [some (.sh (.tuple (ls.map strD)))]) = _
  cases q : goodL ls with
  | true =>
    rw [q] at g
    simp only [if_true] at g
    simp [d_program_text, eqP_ss, neP_ss, eqP_ii, inP_1, Str.length, L2.atI, L2.ixN, bodyM2, bodyF, bodyV, entryM, entryR, entryV, muAt, lstAt, putL, dSeq, dIfS, dExpr, dRet, dSet, putV, dNext, dMut, dSetIx, dCallM, dCall, callR, dB, dSl, pSome, pNone, slP, cutD, ofO, peek, keep, coerce, coerceAll, peekAll, gN, dTest, dBin, dV, dC, dNil, dCons, dTup, dLst, dIf, dNotT, dAndT, dOrT, dNotV, dAndV, dOrV, dM1, dIsi, tyName, isDict, kb1, kb2, kb3, kb4, kb5, kb6, kb7, kb8, kb9, kb10, kb11, kb12, R.bind, addP, subP, mulP, fdivP, modP, powP, ltP, leP, gtP, geP, ixP, intP, absP, lenP, R.bind_ok, R.bind_bad, R.bind_exc, OC.data, plainR, noMut, noMut.go, List.getElem?_cons_zero, List.getElem?_cons_succ, List.set_cons_zero, List.set_cons_succ, List.replicate, g, t, fin, strD]
  | false =>
    rw [q] at g
    simp only [Bool.false_eq_true, if_false] at g
    simp [d_program_text, eqP_ss, neP_ss, eqP_ii, inP_1, Str.length, L2.atI, L2.ixN, bodyM2, bodyF, bodyV, entryM, entryR, entryV, muAt, lstAt, putL, dSeq, dIfS, dExpr, dRet, dSet, putV, dNext, dMut, dSetIx, dCallM, dCall, callR, dB, dSl, pSome, pNone, slP, cutD, ofO, peek, keep, coerce, coerceAll, peekAll, gN, dTest, dBin, dV, dC, dNil, dCons, dTup, dLst, dIf, dNotT, dAndT, dOrT, dNotV, dAndV, dOrV, dM1, dIsi, tyName, isDict, kb1, kb2, kb3, kb4, kb5, kb6, kb7, kb8, kb9, kb10, kb11, kb12, R.bind, addP, subP, mulP, fdivP, modP, powP, ltP, leP, gtP, geP, ixP, intP, absP, lenP, R.bind_ok, R.bind_bad, R.bind_exc, OC.data, plainR, noMut, noMut.go, List.getElem?_cons_zero, List.getElem?_cons_succ, List.set_cons_zero, List.set_cons_succ, List.replicate, g, fin]
theorem in_spec (z : List Nat) (hz : z.length ≤ 900000) : F_program_in [strD z] = some (.ok (.sh (if goodL (progL z) = true then .tuple ((progL z).map strD) else .none))) := by
  have pl := prog_len (z := z)
  have g := is_good_spec (progL z) (fun l hl => by have := pl.2 l hl; omega) (by omega)
  have sp := splitP_z z (by omega)
  rw [show F_program_in [strD z] = bodyF 2 d_program_in [strD z] from rfl, bodyF_fin]
  have c0 : dNotT (dTest (dIsi "str" (dV 0))) [some (.sh (strD z)), none] = R.ok false [some (.sh (strD z)), none] := by
    simp [strD, eqP_ss, neP_ss, eqP_ii, inP_1, Str.length, L2.atI, L2.ixN, bodyM2, bodyF, bodyV, entryM, entryR, entryV, muAt, lstAt, putL, dSeq, dIfS, dExpr, dRet, dSet, putV, dNext, dMut, dSetIx, dCallM, dCall, callR, dB, dSl, pSome, pNone, slP, cutD, ofO, peek, keep, coerce, coerceAll, peekAll, gN, dTest, dBin, dV, dC, dNil, dCons, dTup, dLst, dIf, dNotT, dAndT, dOrT, dNotV, dAndV, dOrV, dM1, dIsi, tyName, isDict, kb1, kb2, kb3, kb4, kb5, kb6, kb7, kb8, kb9, kb10, kb11, kb12, R.bind, addP, subP, mulP, fdivP, modP, powP, ltP, leP, gtP, geP, ixP, intP, absP, lenP, R.bind_ok, R.bind_bad, R.bind_exc, OC.data, plainR, noMut, noMut.go, List.getElem?_cons_zero, List.getElem?_cons_succ, List.set_cons_zero, List.set_cons_succ, List.replicate]
  have ne : neP (strD z) (.str (Str.ofString "nothing")) = some (.sh (.bool (!decide (z = nothL)))) := by
    rw [noth]
    have := neP_ss (mkS z) (mkS nothL)
    have e : (mkS z == mkS nothL) = decide (z = nothL) := by by_cases h : z = nothL <;> simp [h, mkS]
    rw [e] at this
    exact this
  have s1 : dSet 1 (dIf (dTest (dBin neP (dV 0) (dC (.str ("nothing" : Str))))) (dB tupleP (dCons (dM1 splitP (dV 0) (dC (.str (" " : Str)))) dNil)) (dTup dNil)) [some (.sh (strD z)), none] = R.ok .nx [some (.sh (strD z)), some (.sh (.tuple ((progL z).map strD)))] := by
    unfold progL
    have sM : dM1 splitP (dV 0) (dC (.str (" " : Str))) [some (.sh (strD z)), none] = R.ok (DV.ow (.lst ((spl z).map strD))) [some (.sh (strD z)), none] := by
      have e := sp
      have sd : strD z = .str (mkS z) := rfl
      rw [sd] at e ⊢
      simp [eqP_ss, neP_ss, eqP_ii, inP_1, Str.length, L2.atI, L2.ixN, bodyM2, bodyF, bodyV, entryM, entryR, entryV, muAt, lstAt, putL, dSeq, dIfS, dExpr, dRet, dSet, putV, dNext, dMut, dSetIx, dCallM, dCall, callR, dB, dSl, pSome, pNone, slP, cutD, ofO, peek, keep, coerce, coerceAll, peekAll, gN, dTest, dBin, dV, dC, dNil, dCons, dTup, dLst, dIf, dNotT, dAndT, dOrT, dNotV, dAndV, dOrV, dM1, dIsi, tyName, isDict, kb1, kb2, kb3, kb4, kb5, kb6, kb7, kb8, kb9, kb10, kb11, kb12, R.bind, addP, subP, mulP, fdivP, modP, powP, ltP, leP, gtP, geP, ixP, intP, absP, lenP, R.bind_ok, R.bind_bad, R.bind_exc, OC.data, plainR, noMut, noMut.go, List.getElem?_cons_zero, List.getElem?_cons_succ, List.set_cons_zero, List.set_cons_succ, List.replicate, e]
    generalize dM1 splitP (dV 0) (dC (.str (" " : Str))) = δ at sM ⊢
    by_cases q : z = nothL
    · rw [if_pos q]
      have q2 : decide (z = nothL) = true := by simp [q]
      rw [q2] at ne
      simp [eqP_ss, neP_ss, eqP_ii, inP_1, Str.length, L2.atI, L2.ixN, bodyM2, bodyF, bodyV, entryM, entryR, entryV, muAt, lstAt, putL, dSeq, dIfS, dExpr, dRet, dSet, putV, dNext, dMut, dSetIx, dCallM, dCall, callR, dB, dSl, pSome, pNone, slP, cutD, ofO, peek, keep, coerce, coerceAll, peekAll, gN, dTest, dBin, dV, dC, dNil, dCons, dTup, dLst, dIf, dNotT, dAndT, dOrT, dNotV, dAndV, dOrV, dM1, dIsi, tyName, isDict, kb1, kb2, kb3, kb4, kb5, kb6, kb7, kb8, kb9, kb10, kb11, kb12, R.bind, addP, subP, mulP, fdivP, modP, powP, ltP, leP, gtP, geP, ixP, intP, absP, lenP, R.bind_ok, R.bind_bad, R.bind_exc, OC.data, plainR, noMut, noMut.go, List.getElem?_cons_zero, List.getElem?_cons_succ, List.set_cons_zero, List.set_cons_succ, List.replicate, ne]
    · rw [if_neg q]
      have q2 : decide (z = nothL) = false := by simp [q]
      rw [q2] at ne
      simp [eqP_ss, neP_ss, eqP_ii, inP_1, Str.length, L2.atI, L2.ixN, bodyM2, bodyF, bodyV, entryM, entryR, entryV, muAt, lstAt, putL, dSeq, dIfS, dExpr, dRet, dSet, putV, dNext, dMut, dSetIx, dCallM, dCall, callR, dB, dSl, pSome, pNone, slP, cutD, ofO, peek, keep, coerce, coerceAll, peekAll, gN, dTest, dBin, dV, dC, dNil, dCons, dTup, dLst, dIf, dNotT, dAndT, dOrT, dNotV, dAndV, dOrV, dM1, dIsi, tyName, isDict, kb1, kb2, kb3, kb4, kb5, kb6, kb7, kb8, kb9, kb10, kb11, kb12, R.bind, addP, subP, mulP, fdivP, modP, powP, ltP, leP, gtP, geP, ixP, intP, absP, lenP, R.bind_ok, R.bind_bad, R.bind_exc, OC.data, plainR, noMut, noMut.go, List.getElem?_cons_zero, List.getElem?_cons_succ, List.set_cons_zero, List.set_cons_succ, List.replicate, ne, sM, tupleP]
  have r1 : dRet (dIf (dTest (dCall F_is_good (dCons (dV 1) dNil))) (dV 1) (dC .none)) [some (.sh (strD z)), some (.sh (.tuple ((progL z).map strD)))] = R.ok (.rt (.sh (if goodL (progL z) = true then .tuple ((progL z).map strD) else .none))) [some (.sh (strD z)), some (.sh (.tuple ((progL z).map strD)))] := by
    cases q : goodL (progL z) with
    | true =>
      rw [q] at g
      simp [eqP_ss, neP_ss, eqP_ii, inP_1, Str.length, L2.atI, L2.ixN, bodyM2, bodyF, bodyV, entryM, entryR, entryV, muAt, lstAt, putL, dSeq, dIfS, dExpr, dRet, dSet, putV, dNext, dMut, dSetIx, dCallM, dCall, callR, dB, dSl, pSome, pNone, slP, cutD, ofO, peek, keep, coerce, coerceAll, peekAll, gN, dTest, dBin, dV, dC, dNil, dCons, dTup, dLst, dIf, dNotT, dAndT, dOrT, dNotV, dAndV, dOrV, dM1, dIsi, tyName, isDict, kb1, kb2, kb3, kb4, kb5, kb6, kb7, kb8, kb9, kb10, kb11, kb12, R.bind, addP, subP, mulP, fdivP, modP, powP, ltP, leP, gtP, geP, ixP, intP, absP, lenP, R.bind_ok, R.bind_bad, R.bind_exc, OC.data, plainR, noMut, noMut.go, List.getElem?_cons_zero, List.getElem?_cons_succ, List.set_cons_zero, List.set_cons_succ, List.replicate, g]
    | false =>
      rw [q] at g
      simp [eqP_ss, neP_ss, eqP_ii, inP_1, Str.length, L2.atI, L2.ixN, bodyM2, bodyF, bodyV, entryM, entryR, entryV, muAt, lstAt, putL, dSeq, dIfS, dExpr, dRet, dSet, putV, dNext, dMut, dSetIx, dCallM, dCall, callR, dB, dSl, pSome, pNone, slP, cutD, ofO, peek, keep, coerce, coerceAll, peekAll, gN, dTest, dBin, dV, dC, dNil, dCons, dTup, dLst, dIf, dNotT, dAndT, dOrT, dNotV, dAndV, dOrV, dM1, dIsi, tyName, isDict, kb1, kb2, kb3, kb4, kb5, kb6, kb7, kb8, kb9, kb10, kb11, kb12, R.bind, addP, subP, mulP, fdivP, modP, powP, ltP, leP, gtP, geP, ixP, intP, absP, lenP, R.bind_ok, R.bind_bad, R.bind_exc, OC.data, plainR, noMut, noMut.go, List.getElem?_cons_zero, List.getElem?_cons_succ, List.set_cons_zero, List.set_cons_succ, List.replicate, g]
  show fin (d_program_in [some (.sh (strD z)), none]) = _
  unfold d_program_in
  rw [seq_no c0, seq_nx s1, r1]
  rfl
theorem isNone_t (ds : List PyData) : isNoneP (.tuple ds) .none = some (.sh (.bool false)) := rfl
theorem read_spec (z : List Nat) (hz : z.length ≤ 900000) : F_read_program [strD z] = if goodL (progL z) = true then some (.ok (.sh (.tuple ((progL z).map strD)))) else some (.exc "InvalidText") := by
  have g := in_spec z hz
  have nm : noMut.go ((progL z).map strD) = true := by
    generalize progL z = ls
    induction ls with
    | nil => rfl
    | cons a r ih => exact ih
  rw [show F_read_program [strD z] = bodyF 2 d_read_program [strD z] from rfl, bodyF_fin]
  show fin (d_read_program [some (.sh (strD z)), none]) = _
  cases q : goodL (progL z) with
  | true =>
    rw [q] at g
    simp only [if_true] at g
    simp [d_read_program, eqP_ss, neP_ss, eqP_ii, inP_1, Str.length, L2.atI, L2.ixN, bodyM2, bodyF, bodyV, entryM, entryR, entryV, muAt, lstAt, putL, dSeq, dIfS, dExpr, dRet, dSet, putV, dNext, dMut, dSetIx, dCallM, dCall, callR, dB, dSl, pSome, pNone, slP, cutD, ofO, peek, keep, coerce, coerceAll, peekAll, gN, dTest, dBin, dV, dC, dNil, dCons, dTup, dLst, dIf, dNotT, dAndT, dOrT, dNotV, dAndV, dOrV, dM1, dIsi, tyName, isDict, kb1, kb2, kb3, kb4, kb5, kb6, kb7, kb8, kb9, kb10, kb11, kb12, R.bind, addP, subP, mulP, fdivP, modP, powP, ltP, leP, gtP, geP, ixP, intP, absP, lenP, R.bind_ok, R.bind_bad, R.bind_exc, OC.data, plainR, noMut, noMut.go, List.getElem?_cons_zero, List.getElem?_cons_succ, List.set_cons_zero, List.set_cons_succ, List.replicate, g, nm, isNone_t, fin]
  | false =>
    rw [q] at g
    simp only [Bool.false_eq_true, if_false] at g
    have e : isNoneP .none .none = some (.sh (.bool true)) := rfl
    simp [d_read_program, eqP_ss, neP_ss, eqP_ii, inP_1, Str.length, L2.atI, L2.ixN, bodyM2, bodyF, bodyV, entryM, entryR, entryV, muAt, lstAt, putL, dSeq, dIfS, dExpr, dRet, dSet, putV, dNext, dMut, dSetIx, dCallM, dCall, callR, dB, dSl, pSome, pNone, slP, cutD, ofO, peek, keep, coerce, coerceAll, peekAll, gN, dTest, dBin, dV, dC, dNil, dCons, dTup, dLst, dIf, dNotT, dAndT, dOrT, dNotV, dAndV, dOrV, dM1, dIsi, tyName, isDict, kb1, kb2, kb3, kb4, kb5, kb6, kb7, kb8, kb9, kb10, kb11, kb12, R.bind, addP, subP, mulP, fdivP, modP, powP, ltP, leP, gtP, geP, ixP, intP, absP, lenP, R.bind_ok, R.bind_bad, R.bind_exc, OC.data, plainR, noMut, noMut.go, List.getElem?_cons_zero, List.getElem?_cons_succ, List.set_cons_zero, List.set_cons_succ, List.replicate, g, e, fin]
end G
end

section
set_option Elab.async false
set_option linter.all false
set_option maxRecDepth 100000
set_option maxHeartbeats 1000000
set_option pp.maxSteps 400
namespace G
open PySem PySem.Spec DL DH
/-! ### the programs that the law makes -/
theorem callU {i : Nat} {a b m : Int} {ρ : Rho} {δ : DA} (h0 : lstAt ρ i = some [.int a, .int b]) (hδ : δ ρ = .ok [.sh (.int m)] ρ) (hm : 0 < m) (hm2 : m < 1000) : ∃ (a' b' r : Int), dCallM F_law_under i δ ρ = .ok (.sh (.int r)) (putL ρ i [.int a', .int b']) ∧ 0 ≤ r ∧ r < m := by
  obtain ⟨a', b', r, e, r0, r1⟩ := under_spec a b m hm hm2
  refine ⟨a', b', r, ?_, r0, r1⟩
  have c : coerceAll [DV.sh (.int m)] ρ = .ok [.int m] ρ := rfl
  unfold dCallM
  rw [h0]
  try dsimp only
  rw [hδ, R.bind_ok, c, R.bind_ok]
  try dsimp only
  rw [h0]
  try dsimp only
  rw [e]
theorem callS {i : Nat} {a b : Int} {ρ ρ1 : Rho} {δ : DA} {x : DV} {ds : List PyData} (h0 : lstAt ρ i = some [.int a, .int b]) (hδ : δ ρ = .ok [x] ρ) (hx : coerceAll [x] ρ = .ok [.list ds] ρ1) (h2 : lstAt ρ1 i = some [.int a, .int b]) (hm : ds ≠ []) (hm2 : ds.length < 1000) : ∃ (a' b' : Int) (j : Nat) (d : PyData), dCallM F_law_some i δ ρ = .ok (.sh d) (putL ρ1 i [.int a', .int b']) ∧ ds[j]? = some d := by
  obtain ⟨a', b', j, d, e1, e⟩ := some_list a b ds hm hm2
  refine ⟨a', b', j, d, ?_, e1⟩
  unfold dCallM
  rw [h0]
  try dsimp only
  rw [hδ, R.bind_ok, hx, R.bind_ok]
  try dsimp only
  rw [h2]
  try dsimp only
  rw [e]
def abc : List Nat := [97, 98, 99, 100, 101, 102]
theorem abcS : (Str.ofString "abcdef") = mkS abc := by kernel_rfl
abbrev PS (a b size : Int) (now : List Nat) (ls : List (List Nat)) (x6 x7 x8 x9 : Option DV) : Rho :=
  [some (.mu (.lst [.int a, .int b])), some (.sh (.int 16)), some (.sh (.str (Str.ofString "abcdef"))), some (.sh (.int size)), some (.ow (.lst (lst now))), some (.sh (.tuple (ls.map strD))), x6, x7, x8, x9]
theorem lcD_sel {c : DB} {i : Nat} {ρ : Rho} (hw : ρ[i]? = some none) {r : PyData → Bool} : ∀ (ds acc : List PyData), (∀ d ∈ ds, c (ρ.set i (some (.sh d))) = .ok (r d) (ρ.set i (some (.sh d)))) → acc.length + ds.length ≤ 1000000 →
    lcD (gN i) c (dV i) [i] ds acc ρ = .ok (acc ++ ds.filter r) ρ
  | [], acc, _, _ => by simp [lcD]
  | d :: ds, acc, h, hl => by
    have hi : i < ρ.length := (List.getElem?_eq_some_iff.mp hw).1
    have hc := h d List.mem_cons_self
    have hl' : acc.length < 1000000 := by simp at hl; omega
    have e1 : (ρ.set i (some (DV.sh d)))[i]? = some (some (DV.sh d)) := List.getElem?_set_self hi
    have hg : gN i d ρ = .ok .nx (ρ.set i (some (.sh d))) := by simp [gN, putV, hi]
    have hv : dV i (ρ.set i (some (DV.sh d))) = R.ok (DV.sh d) (ρ.set i (some (DV.sh d))) := by simp [dV, e1]
    have hw' : wipeR (ρ.set i (some (DV.sh d))) [i] = ρ := by simp [wipeR, set_none hw]
    cases q : r d with
    | false =>
      have ih := lcD_sel hw ds acc (fun x hx => h x (List.mem_cons_of_mem _ hx)) (by simp at hl ⊢; omega)
      rw [q] at hc
      unfold lcD
      rw [hg]
      try dsimp only
      rw [hc]
      dsimp only
      rw [hw', ih]
      simp [q]
    | true =>
      have ih := lcD_sel hw ds (acc ++ [d]) (fun x hx => h x (List.mem_cons_of_mem _ hx)) (by simp at hl ⊢; omega)
      rw [q] at hc
      unfold lcD
      rw [hg]
      try dsimp only
      rw [hc]
      dsimp only
      rw [hv]
      dsimp only [coerce]
      rw [if_pos hl', hw', ih]
      simp [q]
def freeL (now : List Nat) : List Nat := abc.filter fun d => !decide (d ∈ now)
theorem free_spec (a b size : Int) (now : List Nat) (ls : List (List Nat)) (x6 x7 x8 x9 : Option DV) : ∃ x7', dSet 6 (dLc (iStrD (dV 2)) (gN 7) (dTest (dBin notInP (dV 7) (dV 4))) (dV 7) [7]) (PS a b size now ls x6 x7 x8 x9) = .ok .nx (PS a b size now ls (some (.ow (.lst (lst (freeL now))))) x7' x8 x9) := by
  have sg : signs (Str.ofString "abcdef") = lst abc := by kernel_rfl
  have e := lcD_sel (c := dTest (dBin notInP (dV 7) (dV 4))) (i := 7) (ρ := PS a b size now ls x6 none x8 x9) rfl (r := fun d => match d with | .str z => !decide ((z.cps.getD 0 0) ∈ now) | _ => false) (lst abc) [] (fun d hd => by
    obtain ⟨k, hk, rfl⟩ := List.mem_map.mp hd
    have n := notIn_lst k now
    have s1 : dV 7 ((PS a b size now ls x6 none x8 x9).set 7 (some (.sh (strD [k])))) = R.ok (DV.sh (strD [k])) ((PS a b size now ls x6 none x8 x9).set 7 (some (.sh (strD [k])))) := rfl
    simp [eqP_ss, neP_ss, eqP_ii, inP_1, Str.length, L2.atI, L2.ixN, bodyM2, bodyF, bodyV, entryM, entryR, entryV, muAt, lstAt, putL, dSeq, dIfS, dExpr, dRet, dSet, putV, dNext, dMut, dSetIx, dCallM, dCall, callR, dB, dSl, pSome, pNone, slP, cutD, ofO, peek, keep, coerce, coerceAll, peekAll, gN, dTest, dBin, dV, dC, dNil, dCons, dTup, dLst, dIf, dNotT, dAndT, dOrT, dNotV, dAndV, dOrV, dM1, dIsi, tyName, isDict, kb1, kb2, kb3, kb4, kb5, kb6, kb7, kb8, kb9, kb10, kb11, kb12, R.bind, addP, subP, mulP, fdivP, modP, powP, ltP, leP, gtP, geP, ixP, intP, absP, lenP, R.bind_ok, R.bind_bad, R.bind_exc, OC.data, plainR, noMut, noMut.go, List.getElem?_cons_zero, List.getElem?_cons_succ, List.set_cons_zero, List.set_cons_succ, List.replicate, n]
    simp [strD]) (by simp [lst, abc])
  have e' : (lst abc).filter (fun d => match d with | .str z => !decide ((z.cps.getD 0 0) ∈ now) | _ => false) = lst (freeL now) := by
    unfold lst freeL
    rw [List.filter_map]
    rfl
  rw [e', List.nil_append] at e
  have e2 : dLc (iStrD (dV 2)) (gN 7) (dTest (dBin notInP (dV 7) (dV 4))) (dV 7) [7] (PS a b size now ls x6 x7 x8 x9) = R.ok (DV.ow (.lst (lst (freeL now)))) (PS a b size now ls x6 (holdR (PS a b size now ls x6 x7 x8 x9) 7) x8 x9) := by
    show (match lcD (gN 7) (dTest (dBin notInP (dV 7) (dV 4))) (dV 7) [7] (signs (Str.ofString "abcdef")) [] (PS a b size now ls x6 none x8 x9) with
      | R.ok zs ρ2 => R.ok (DV.ow (.lst zs)) (restoreR ρ2 (PS a b size now ls x6 x7 x8 x9) [7])
      | _ => R.bad) = _
    rw [sg, e]
    rfl
  refine ⟨holdR (PS a b size now ls x6 x7 x8 x9) 7, ?_⟩
  unfold dSet
  rw [e2]
  rfl

theorem lenT (a b size : Int) (now : List Nat) (ls : List (List Nat)) (x6 x7 x8 x9 : Option DV) : dBin addP (dB lenP (dCons (dV 5) dNil)) (dB lenP (dCons (dV 4) dNil)) (PS a b size now ls x6 x7 x8 x9) = R.ok (DV.sh (.int ((ls.length : Int) + now.length))) (PS a b size now ls x6 x7 x8 x9) := by
  have h : (lst now).length = now.length := by simp [lst]
  simp [eqP_ss, neP_ss, eqP_ii, inP_1, Str.length, L2.atI, L2.ixN, bodyM2, bodyF, bodyV, entryM, entryR, entryV, muAt, lstAt, putL, dSeq, dIfS, dExpr, dRet, dSet, putV, dNext, dMut, dSetIx, dCallM, dCall, callR, dB, dSl, pSome, pNone, slP, cutD, ofO, peek, keep, coerce, coerceAll, peekAll, gN, dTest, dBin, dV, dC, dNil, dCons, dTup, dLst, dIf, dNotT, dAndT, dOrT, dNotV, dAndV, dOrV, dM1, dIsi, tyName, isDict, kb1, kb2, kb3, kb4, kb5, kb6, kb7, kb8, kb9, kb10, kb11, kb12, R.bind, addP, subP, mulP, fdivP, modP, powP, ltP, leP, gtP, geP, ixP, intP, absP, lenP, R.bind_ok, R.bind_bad, R.bind_exc, OC.data, plainR, noMut, noMut.go, List.getElem?_cons_zero, List.getElem?_cons_succ, List.set_cons_zero, List.set_cons_succ, List.replicate, h]
theorem cond_spec (a b : Int) (size : Nat) (now : List Nat) (ls : List (List Nat)) (x6 x7 x8 x9 : Option DV) : dTest (dBin ltP (dBin addP (dB lenP (dCons (dV 5) dNil)) (dB lenP (dCons (dV 4) dNil))) (dV 3)) (PS a b size now ls x6 x7 x8 x9) = R.ok (decide (ls.length + now.length < size)) (PS a b size now ls x6 x7 x8 x9) := by
  have e := lenT a b size now ls x6 x7 x8 x9
  generalize dBin addP (dB lenP (dCons (dV 5) dNil)) (dB lenP (dCons (dV 4) dNil)) = δ at e ⊢
  have q : ((ls.length : Int) + now.length < (size : Int)) ↔ ls.length + now.length < size := by omega
  simp [eqP_ss, neP_ss, eqP_ii, inP_1, Str.length, L2.atI, L2.ixN, bodyM2, bodyF, bodyV, entryM, entryR, entryV, muAt, lstAt, putL, dSeq, dIfS, dExpr, dRet, dSet, putV, dNext, dMut, dSetIx, dCallM, dCall, callR, dB, dSl, pSome, pNone, slP, cutD, ofO, peek, keep, coerce, coerceAll, peekAll, gN, dTest, dBin, dV, dC, dNil, dCons, dTup, dLst, dIf, dNotT, dAndT, dOrT, dNotV, dAndV, dOrV, dM1, dIsi, tyName, isDict, kb1, kb2, kb3, kb4, kb5, kb6, kb7, kb8, kb9, kb10, kb11, kb12, R.bind, addP, subP, mulP, fdivP, modP, powP, ltP, leP, gtP, geP, ixP, intP, absP, lenP, R.bind_ok, R.bind_bad, R.bind_exc, OC.data, plainR, noMut, noMut.go, List.getElem?_cons_zero, List.getElem?_cons_succ, List.set_cons_zero, List.set_cons_succ, List.replicate, e, q]
theorem room_spec (a b : Int) (size : Nat) (now : List Nat) (ls : List (List Nat)) (x6 x7 x8 x9 : Option DV) : dSet 8 (dBin leP (dBin addP (dBin addP (dB lenP (dCons (dV 5) dNil)) (dB lenP (dCons (dV 4) dNil))) (dC (.int 2))) (dV 3)) (PS a b size now ls x6 x7 x8 x9) = .ok .nx (PS a b size now ls x6 x7 (some (.sh (.bool (decide (ls.length + now.length + 2 ≤ size))))) x9) := by
  have e := lenT a b size now ls x6 x7 x8 x9
  generalize dBin addP (dB lenP (dCons (dV 5) dNil)) (dB lenP (dCons (dV 4) dNil)) = δ at e ⊢
  have q : ((ls.length : Int) + now.length + 2 ≤ (size : Int)) ↔ ls.length + now.length + 2 ≤ size := by omega
  simp [eqP_ss, neP_ss, eqP_ii, inP_1, Str.length, L2.atI, L2.ixN, bodyM2, bodyF, bodyV, entryM, entryR, entryV, muAt, lstAt, putL, dSeq, dIfS, dExpr, dRet, dSet, putV, dNext, dMut, dSetIx, dCallM, dCall, callR, dB, dSl, pSome, pNone, slP, cutD, ofO, peek, keep, coerce, coerceAll, peekAll, gN, dTest, dBin, dV, dC, dNil, dCons, dTup, dLst, dIf, dNotT, dAndT, dOrT, dNotV, dAndV, dOrV, dM1, dIsi, tyName, isDict, kb1, kb2, kb3, kb4, kb5, kb6, kb7, kb8, kb9, kb10, kb11, kb12, R.bind, addP, subP, mulP, fdivP, modP, powP, ltP, leP, gtP, geP, ixP, intP, absP, lenP, R.bind_ok, R.bind_bad, R.bind_exc, OC.data, plainR, noMut, noMut.go, List.getElem?_cons_zero, List.getElem?_cons_succ, List.set_cons_zero, List.set_cons_succ, List.replicate, e, q]
theorem way_spec (a b size : Int) (now : List Nat) (ls : List (List Nat)) (x6 x7 x8 x9 : Option DV) : ∃ (a' b' r : Int), dSet 9 (dCallM F_law_under 0 (dCons (dC (.int 5)) dNil)) (PS a b size now ls x6 x7 x8 x9) = .ok .nx (PS a' b' size now ls x6 x7 x8 (some (.sh (.int r)))) := by
  obtain ⟨a', b', r, e, _, _⟩ := callU (i := 0) (ρ := PS a b size now ls x6 x7 x8 x9) (δ := dCons (dC (.int 5)) dNil) rfl rfl (by decide) (by decide)
  refine ⟨a', b', r, ?_⟩
  unfold dSet
  rw [e]
  rfl
/-- what holds of a program that is being made -/
structure Mk (now : List Nat) (ls : List (List Nat)) : Prop where
  run : run [] ls = some now
  steps : ls.all isStepL = true
  nd : now.Nodup
  abc : ∀ d ∈ now, 97 ≤ d ∧ d ≤ 102
theorem run_two (now : List Nat) (c d : Nat) (r : List (List Nat)) : G.run now ([c, d] :: r) = if c = 45 then (if d ∈ now then G.run (now.erase d) r else none) else (if d ∈ now then none else G.run (now ++ [d]) r) := by rw [G.run]
theorem run_snoc : ∀ (ls : List (List Nat)) (s : List Nat) (now now' : List Nat), G.run now ls = some now' → G.run now (ls ++ [s]) = G.run now' [s]
  | [], s, now, now', h => by simp [G.run] at h; subst h; rfl
  | [_] :: r, s, now, now', h => run_snoc r s now now' (by simpa [G.run] using h)
  | [c, d] :: r, s, now, now', h => by
    show G.run now ([c, d] :: (r ++ [s])) = _
    rw [run_two] at h ⊢
    split at h
    · rename_i h1
      rw [if_pos h1]
      split at h
      · rename_i h2
        rw [if_pos h2]
        exact run_snoc r s _ now' h
      · cases h
    · rename_i h1
      rw [if_neg h1]
      split at h
      · cases h
      · rename_i h2
        rw [if_neg h2]
        exact run_snoc r s _ now' h
  | [] :: r, s, now, now', h => by simp [G.run] at h
  | (_ :: _ :: _ :: _) :: r, s, now, now', h => by simp [G.run] at h
theorem Mk.dot {now : List Nat} {ls : List (List Nat)} (m : Mk now ls) : Mk now (ls ++ [[46]]) := ⟨by
    rw [run_snoc ls [46] [] now m.run]; rfl, by rw [List.all_append, m.steps]; rfl, m.nd, m.abc⟩
theorem Mk.add {now : List Nat} {ls : List (List Nat)} (m : Mk now ls) {c d : Nat} (hc : c = 43 ∨ c = 61) (hd : 97 ≤ d ∧ d ≤ 102) (hn : d ∉ now) : Mk (now ++ [d]) (ls ++ [[c, d]]) := ⟨by
    rw [run_snoc ls [c, d] [] now m.run]
    have : c ≠ 45 := by omega
    simp [G.run, this, hn], by
    rw [List.all_append, m.steps]
    rcases hc with h | h <;> subst h <;> simp [isStepL, hd], by
    rw [List.nodup_append]
    exact ⟨m.nd, by simp, fun a ha b hb => by simp at hb; subst hb; exact fun z => hn (z ▸ ha)⟩, fun x hx => by
    rcases List.mem_append.mp hx with h | h
    · exact m.abc x h
    · simp at h; subst h; exact hd⟩
theorem erase_at : ∀ (l : List Nat) (j : Nat) (d : Nat), l.Nodup → l[j]? = some d → l.eraseIdx j = l.erase d
  | [], j, d, _, h => by simp at h
  | a :: r, 0, d, _, h => by simp at h; subst h; simp
  | a :: r, j + 1, d, n, h => by
    have h : r[j]? = some d := by simpa using h
    have hm : d ∈ r := List.mem_of_getElem? h
    have n' := List.nodup_cons.mp n
    have ne : ¬ a = d := fun z => n'.1 (z ▸ hm)
    rw [List.eraseIdx_cons_succ, erase_at r j d n'.2 h, List.erase_cons_tail (by simpa using ne)]
theorem Mk.pop {now : List Nat} {ls : List (List Nat)} (m : Mk now ls) {j d : Nat} (h : now[j]? = some d) : Mk (now.eraseIdx j) (ls ++ [[45, d]]) := by
  have hm : d ∈ now := List.mem_of_getElem? h
  have hd := m.abc d hm
  rw [erase_at now j d m.nd h]
  exact ⟨by
    rw [run_snoc ls [45, d] [] now m.run]
    simp [G.run, hm], by
    rw [List.all_append, m.steps]
    simp [isStepL, hd], m.nd.erase d, fun x hx => m.abc x (List.mem_of_mem_erase hx)⟩
end G
end

section
set_option Elab.async false
set_option linter.all false
set_option maxRecDepth 100000
set_option maxHeartbeats 1000000
set_option pp.maxSteps 400
namespace G
open PySem PySem.Spec DL DH
theorem bin_sh {g : PyData → PyData → Option DV} {δa δb : DE} {ρ ρ1 ρ2 : Rho} {a b c : PyData} (h1 : δa ρ = .ok (.sh a) ρ1) (h2 : δb ρ1 = .ok (.sh b) ρ2) (h3 : g a b = some (.sh c)) : dBin g δa δb ρ = .ok (.sh c) ρ2 := by
  unfold dBin
  rw [h1, R.bind_ok, h2, R.bind_ok]
  show ofO (g a b) ρ2 = _
  rw [h3]
  rfl
theorem tup1 {δ : DE} {ρ ρ1 : Rho} {d : PyData} (h : δ ρ = .ok (.sh d) ρ1) : dTup (dCons δ dNil) ρ = .ok (.sh (.tuple [d])) ρ1 := by
  unfold dTup dCons
  rw [h]
  rfl
theorem set_sh {i : Nat} {δ : DE} {ρ ρ1 : Rho} {d : PyData} (h : δ ρ = .ok (.sh d) ρ1) (hi : i < ρ1.length) : dSet i δ ρ = .ok .nx (ρ1.set i (some (.sh d))) := by
  unfold dSet
  rw [h, R.bind_ok]
  unfold putV
  rw [if_pos hi]
theorem addStep {δ : DE} {a b a' b' size : Int} {now now' : List Nat} {ls : List (List Nat)} {s : List Nat} {x6 x7 x8 x9 : Option DV} (hl : ls.length < 1000) (h : δ (PS a b size now ls x6 x7 x8 x9) = .ok (.sh (strD s)) (PS a' b' size now' ls x6 x7 x8 x9)) :
    dSet 5 (dBin addP (dV 5) (dTup (dCons δ dNil))) (PS a b size now ls x6 x7 x8 x9) = .ok .nx (PS a' b' size now' (ls ++ [s]) x6 x7 x8 x9) := by
  have e : dBin addP (dV 5) (dTup (dCons δ dNil)) (PS a b size now ls x6 x7 x8 x9) = .ok (.sh (.tuple ((ls ++ [s]).map strD))) (PS a' b' size now' ls x6 x7 x8 x9) := by
    refine bin_sh (a := .tuple (ls.map strD)) rfl (tup1 h) ?_
    show (if (ls.map strD).length + [strD s].length ≤ 1000000 then some (DV.sh (.tuple (ls.map strD ++ [strD s]))) else none) = _
    rw [if_pos (by simp; omega), List.map_append]
    rfl
  rw [set_sh e (by show 5 < 10; decide)]
  rfl
theorem popU {a b size : Int} {now : List Nat} {ls : List (List Nat)} {x6 x7 x8 x9 : Option DV} (hn : now ≠ []) (hl : now.length < 1000) : ∃ (a' b' : Int) (j d : Nat), now[j]? = some d ∧
    dMut 4 (dCons (dCallM F_law_under 0 (dCons (dB lenP (dCons (dV 4) dNil)) dNil)) dNil) popAtM (PS a b size now ls x6 x7 x8 x9) = .ok (.sh (strD [d])) (PS a' b' size (now.eraseIdx j) ls x6 x7 x8 x9) := by
  have hp : 0 < now.length := List.length_pos_iff.mpr hn
  have el : (lst now).length = now.length := by simp [lst]
  have h1 : dCons (dB lenP (dCons (dV 4) dNil)) dNil (PS a b size now ls x6 x7 x8 x9) = .ok [.sh (.int (now.length : Int))] (PS a b size now ls x6 x7 x8 x9) := by
    simp [eqP_ss, neP_ss, eqP_ii, inP_1, Str.length, L2.atI, L2.ixN, bodyM2, bodyF, bodyV, entryM, entryR, entryV, muAt, lstAt, putL, dSeq, dIfS, dExpr, dRet, dSet, putV, dNext, dMut, dSetIx, dCallM, dCall, callR, dB, dSl, pSome, pNone, slP, cutD, ofO, peek, keep, coerce, coerceAll, peekAll, gN, dTest, dBin, dV, dC, dNil, dCons, dTup, dLst, dIf, dNotT, dAndT, dOrT, dNotV, dAndV, dOrV, dM1, dIsi, tyName, isDict, kb1, kb2, kb3, kb4, kb5, kb6, kb7, kb8, kb9, kb10, kb11, kb12, R.bind, addP, subP, mulP, fdivP, modP, powP, ltP, leP, gtP, geP, ixP, intP, absP, lenP, R.bind_ok, R.bind_bad, R.bind_exc, OC.data, plainR, noMut, noMut.go, List.getElem?_cons_zero, List.getElem?_cons_succ, List.set_cons_zero, List.set_cons_succ, List.replicate, el]
  obtain ⟨a', b', r, e, r0, r1⟩ := callU (i := 0) (ρ := PS a b size now ls x6 x7 x8 x9) (m := (now.length : Int)) rfl h1 (by omega) (by omega)
  have hr : r.toNat < now.length := by omega
  refine ⟨a', b', r.toNat, now[r.toNat], by simp [hr], ?_⟩
  generalize hδ : dCallM F_law_under 0 (dCons (dB lenP (dCons (dV 4) dNil)) dNil) = δ at e ⊢
  have h2 : dCons δ dNil (PS a b size now ls x6 x7 x8 x9) = .ok [.sh (.int r)] (PS a' b' size now ls x6 x7 x8 x9) := by
    unfold dCons
    rw [e]
    rfl
  have h3 : popAtM (lst now) [.int r] = some (lst (now.eraseIdx r.toNat), strD [now[r.toNat]]) := by
    have c : 0 ≤ r ∧ r < ((lst now).length : Int) ∧ (lst now).length ≤ 1000000 := by rw [el]; exact ⟨r0, r1, by omega⟩
    show (if 0 ≤ r ∧ r < ((lst now).length : Int) ∧ (lst now).length ≤ 1000000 then ((lst now)[r.toNat]?).map fun d => ((lst now).eraseIdx r.toNat, d) else none) = _
    rw [if_pos c]
    have g : (lst now)[r.toNat]? = some (strD [now[r.toNat]]) := by simp [lst, hr]
    have er : (lst now).eraseIdx r.toNat = lst (now.eraseIdx r.toNat) := by
      have key : ∀ (l : List Nat) (j : Nat), (lst l).eraseIdx j = lst (l.eraseIdx j) := fun l => by
        induction l with
        | nil => intro j; rfl
        | cons a r ih =>
          intro j
          cases j with
          | zero => rfl
          | succ j => simpa [lst] using ih j
      exact key now r.toNat
    rw [g, er]
    rfl
  show ((dCons δ dNil (PS a b size now ls x6 x7 x8 x9)).bind fun xs ρ1 => (coerceAll xs ρ1).bind fun ds ρ2 => match lstAt ρ2 4 with
    | none => R.bad
    | some c => match popAtM c ds with
      | some (c', d) => R.ok (DV.sh d) (putL ρ2 4 c')
      | none => R.bad) = _
  rw [h2, R.bind_ok]
  show (match popAtM (lst now) [.int r] with
      | some (c', d) => R.ok (DV.sh d) (putL (PS a' b' size now ls x6 x7 x8 x9) 4 c')
      | none => R.bad) = _
  rw [h3]
  rfl
abbrev popD : DE := dBin addP (dC (.str ("-" : Str))) (dMut 4 (dCons (dCallM F_law_under 0 (dCons (dB lenP (dCons (dV 4) dNil)) dNil)) dNil) popAtM)
theorem popStep {a b size : Int} {now : List Nat} {ls : List (List Nat)} {x6 x7 x8 x9 : Option DV} (hn : now ≠ []) (hl : now.length < 1000) (hl2 : ls.length < 1000) : ∃ (a' b' : Int) (j d : Nat), now[j]? = some d ∧
    dSet 5 (dBin addP (dV 5) (dTup (dCons popD dNil))) (PS a b size now ls x6 x7 x8 x9) = .ok .nx (PS a' b' size (now.eraseIdx j) (ls ++ [[45, d]]) x6 x7 x8 x9) := by
  obtain ⟨a', b', j, d, e1, e⟩ := popU (a := a) (b := b) (size := size) (ls := ls) (x6 := x6) (x7 := x7) (x8 := x8) (x9 := x9) hn hl
  refine ⟨a', b', j, d, e1, addStep hl2 ?_⟩
  refine bin_sh (a := .str (Str.ofString "-")) rfl e ?_
  rw [d1]
  rfl
theorem dotStep {a b size : Int} {now : List Nat} {ls : List (List Nat)} {x6 x7 x8 x9 : Option DV} (hl2 : ls.length < 1000) :
    dSet 5 (dBin addP (dV 5) (dTup (dCons (dC (.str ("." : Str))) dNil))) (PS a b size now ls x6 x7 x8 x9) = .ok .nx (PS a b size now (ls ++ [[46]]) x6 x7 x8 x9) := by
  refine addStep hl2 ?_
  show R.ok (DV.sh (.str (Str.ofString "."))) _ = _
  rw [d2]
  rfl
abbrev addD : DS := (dSeq (dSet 7 (dCallM F_law_some 0 (dCons (dV 6) dNil)))
    (dSeq (dExpr (dMut 4 (dCons (dV 7) dNil) appendM))
    (dSet 5 (dBin addP (dV 5) (dTup (dCons (dBin addP (dCallM F_law_some 0 (dCons (dLst (dCons (dC (.str ("+" : Str))) (dCons (dC (.str ("+" : Str))) (dCons (dC (.str ("=" : Str))) dNil)))) dNil)) (dV 7)) dNil))))))
theorem free_mem {now : List Nat} {d : Nat} (h : d ∈ freeL now) : (97 ≤ d ∧ d ≤ 102) ∧ d ∉ now := by
  unfold freeL at h
  rw [List.mem_filter] at h
  obtain ⟨h1, h2⟩ := h
  exact ⟨by simp [abc] at h1; omega, by simpa using h2⟩
theorem pl : (Str.ofString "+") = (⟨#[43]⟩ : Str) := by kernel_rfl
theorem eqs : (Str.ofString "=") = (⟨#[61]⟩ : Str) := by kernel_rfl
theorem addStep2 {a b size : Int} {now : List Nat} {ls : List (List Nat)} {x7 x8 x9 : Option DV} (hf : freeL now ≠ []) (hl : now.length < 1000) (hl2 : ls.length < 1000) : ∃ (a' b' : Int) (c d : Nat) (x6' x7' : Option DV), (c = 43 ∨ c = 61) ∧ d ∈ freeL now ∧
    addD (PS a b size now ls (some (.ow (.lst (lst (freeL now))))) x7 x8 x9) = .ok .nx (PS a' b' size (now ++ [d]) (ls ++ [[c, d]]) x6' x7' x8 x9) := by
  have fl : (freeL now).length ≤ 6 := by
    unfold freeL
    exact Nat.le_trans (List.length_filter_le _ _) (by decide)
  have ne : lst (freeL now) ≠ [] := fun z => hf (by simpa [lst] using z)
  obtain ⟨a1, b1, j, d', e1, j1⟩ := callS (i := 0) (ρ := PS a b size now ls (some (.ow (.lst (lst (freeL now))))) x7 x8 x9) (ρ1 := PS a b size now ls (some (.sh (.list (lst (freeL now))))) x7 x8 x9) (δ := dCons (dV 6) dNil) (x := .bw 6) (ds := lst (freeL now)) rfl rfl rfl rfl ne (by simp [lst]; omega)
  have hj : j < (freeL now).length := by
    have := (List.getElem?_eq_some_iff.mp j1).1
    simpa [lst] using this
  have hd' : d' = strD [(freeL now)[j]] := by
    have : (lst (freeL now))[j]? = some (strD [(freeL now)[j]]) := by simp [lst, hj]
    rw [this] at j1
    exact (Option.some.inj j1).symm
  subst hd'
  have hm : (freeL now)[j] ∈ freeL now := List.getElem_mem hj
  generalize (freeL now)[j] = d at e1 hm
  have s1 : dSet 7 (dCallM F_law_some 0 (dCons (dV 6) dNil)) (PS a b size now ls (some (.ow (.lst (lst (freeL now))))) x7 x8 x9) = .ok .nx (PS a1 b1 size now ls (some (.sh (.list (lst (freeL now))))) (some (.sh (strD [d]))) x8 x9) := by
    rw [set_sh e1 (by show 7 < 10; decide)]
    rfl
  have s2 : dExpr (dMut 4 (dCons (dV 7) dNil) appendM) (PS a1 b1 size now ls (some (.sh (.list (lst (freeL now))))) (some (.sh (strD [d]))) x8 x9) = .ok .nx (PS a1 b1 size (now ++ [d]) ls (some (.sh (.list (lst (freeL now))))) (some (.sh (strD [d]))) x8 x9) := by
    have ap := app_l d now (by omega)
    have e : dMut 4 (dCons (dV 7) dNil) appendM (PS a1 b1 size now ls (some (.sh (.list (lst (freeL now))))) (some (.sh (strD [d]))) x8 x9) = .ok (.sh .none) (PS a1 b1 size (now ++ [d]) ls (some (.sh (.list (lst (freeL now))))) (some (.sh (strD [d]))) x8 x9) := by
      show (match appendM (lst now) [strD [d]] with
        | some (c', d') => R.ok (DV.sh d') (putL (PS a1 b1 size now ls (some (.sh (.list (lst (freeL now))))) (some (.sh (strD [d]))) x8 x9) 4 c')
        | none => R.bad) = _
      rw [show appendM (lst now) [strD [d]] = some (lst (now ++ [d]), .none) from ap]
      rfl
    unfold dExpr
    rw [e]
    rfl
  obtain ⟨a2, b2, j2, w, e2, w1⟩ := callS (i := 0) (ρ := PS a1 b1 size (now ++ [d]) ls (some (.sh (.list (lst (freeL now))))) (some (.sh (strD [d]))) x8 x9) (ρ1 := PS a1 b1 size (now ++ [d]) ls (some (.sh (.list (lst (freeL now))))) (some (.sh (strD [d]))) x8 x9) (δ := (dCons (dLst (dCons (dC (.str ("+" : Str))) (dCons (dC (.str ("+" : Str))) (dCons (dC (.str ("=" : Str))) dNil)))) dNil)) (x := .sh (.list [.str (Str.ofString "+"), .str (Str.ofString "+"), .str (Str.ofString "=")])) (ds := [.str (Str.ofString "+"), .str (Str.ofString "+"), .str (Str.ofString "=")]) rfl rfl rfl rfl (fun z => nomatch z) (by decide)
  have hw : ∃ c, (c = 43 ∨ c = 61) ∧ w = strD [c] := by
    match j2, w1 with
    | 0, w1 => exact ⟨43, .inl rfl, by simp at w1; rw [← w1, pl]; rfl⟩
    | 1, w1 => exact ⟨43, .inl rfl, by simp at w1; rw [← w1, pl]; rfl⟩
    | 2, w1 => exact ⟨61, .inr rfl, by simp at w1; rw [← w1, eqs]; rfl⟩
    | _ + 3, w1 => simp at w1
  obtain ⟨c, hc, rfl⟩ := hw
  refine ⟨a2, b2, c, d, some (.sh (.list (lst (freeL now)))), some (.sh (strD [d])), hc, hm, ?_⟩
  unfold addD
  rw [seq_nx s1, seq_nx s2]
  refine addStep hl2 (bin_sh e2 rfl ?_)
  rfl

abbrev ifD : DS := (dIfS (dAndT (dTest (dBin ltP (dV 9) (dC (.int 3)))) (dAndT (dTest (dBin neP (dV 6) (dLst dNil))) (dTest (dV 8)))) addD (dIfS (dAndT (dTest (dBin ltP (dV 9) (dC (.int 4)))) (dTest (dBin neP (dV 4) (dLst dNil)))) (dSet 5 (dBin addP (dV 5) (dTup (dCons popD dNil)))) (dSet 5 (dBin addP (dV 5) (dTup (dCons (dC (.str ("." : Str))) dNil))))))
abbrev lbody : DS := (dSeq (dSet 6 (dLc (iStrD (dV 2)) (gN 7) (dTest (dBin notInP (dV 7) (dV 4))) (dV 7) [7]))
    (dSeq (dSet 8 (dBin leP (dBin addP (dBin addP (dB lenP (dCons (dV 5) dNil)) (dB lenP (dCons (dV 4) dNil))) (dC (.int 2))) (dV 3)))
    (dSeq (dSet 9 (dCallM F_law_under 0 (dCons (dC (.int 5)) dNil))) ifD)))
theorem ok_abc {l : List Nat} (h : ∀ d ∈ l, 97 ≤ d ∧ d ≤ 102) : okL l := fun c hc => by have := h c hc; omega
theorem ne_at {a b size : Int} {now fr : List Nat} {ls : List (List Nat)} {x7 x8 x9 : Option DV} (h : okL fr) : dTest (dBin neP (dV 6) (dLst dNil)) (PS a b size now ls (some (.ow (.lst (lst fr)))) x7 x8 x9) = R.ok (!decide (fr = [])) (PS a b size now ls (some (.ow (.lst (lst fr)))) x7 x8 x9) := by
  have n := lst_ne h
  simp [eqP_ss, neP_ss, eqP_ii, inP_1, Str.length, L2.atI, L2.ixN, bodyM2, bodyF, bodyV, entryM, entryR, entryV, muAt, lstAt, putL, dSeq, dIfS, dExpr, dRet, dSet, putV, dNext, dMut, dSetIx, dCallM, dCall, callR, dB, dSl, pSome, pNone, slP, cutD, ofO, peek, keep, coerce, coerceAll, peekAll, gN, dTest, dBin, dV, dC, dNil, dCons, dTup, dLst, dIf, dNotT, dAndT, dOrT, dNotV, dAndV, dOrV, dM1, dIsi, tyName, isDict, kb1, kb2, kb3, kb4, kb5, kb6, kb7, kb8, kb9, kb10, kb11, kb12, R.bind, addP, subP, mulP, fdivP, modP, powP, ltP, leP, gtP, geP, ixP, intP, absP, lenP, R.bind_ok, R.bind_bad, R.bind_exc, OC.data, plainR, noMut, noMut.go, List.getElem?_cons_zero, List.getElem?_cons_succ, List.set_cons_zero, List.set_cons_succ, List.replicate, n]
theorem ne_now {a b size : Int} {now : List Nat} {ls : List (List Nat)} {x6 x7 x8 x9 : Option DV} (h : okL now) : dTest (dBin neP (dV 4) (dLst dNil)) (PS a b size now ls x6 x7 x8 x9) = R.ok (!decide (now = [])) (PS a b size now ls x6 x7 x8 x9) := by
  have n := lst_ne h
  simp [eqP_ss, neP_ss, eqP_ii, inP_1, Str.length, L2.atI, L2.ixN, bodyM2, bodyF, bodyV, entryM, entryR, entryV, muAt, lstAt, putL, dSeq, dIfS, dExpr, dRet, dSet, putV, dNext, dMut, dSetIx, dCallM, dCall, callR, dB, dSl, pSome, pNone, slP, cutD, ofO, peek, keep, coerce, coerceAll, peekAll, gN, dTest, dBin, dV, dC, dNil, dCons, dTup, dLst, dIf, dNotT, dAndT, dOrT, dNotV, dAndV, dOrV, dM1, dIsi, tyName, isDict, kb1, kb2, kb3, kb4, kb5, kb6, kb7, kb8, kb9, kb10, kb11, kb12, R.bind, addP, subP, mulP, fdivP, modP, powP, ltP, leP, gtP, geP, ixP, intP, absP, lenP, R.bind_ok, R.bind_bad, R.bind_exc, OC.data, plainR, noMut, noMut.go, List.getElem?_cons_zero, List.getElem?_cons_succ, List.set_cons_zero, List.set_cons_succ, List.replicate, n]
theorem lt9 {a b size r k : Int} {now : List Nat} {ls : List (List Nat)} {x6 x7 x8 : Option DV} : dTest (dBin ltP (dV 9) (dC (.int k))) (PS a b size now ls x6 x7 x8 (some (.sh (.int r)))) = R.ok (decide (r < k)) (PS a b size now ls x6 x7 x8 (some (.sh (.int r)))) := by
  simp [eqP_ss, neP_ss, eqP_ii, inP_1, Str.length, L2.atI, L2.ixN, bodyM2, bodyF, bodyV, entryM, entryR, entryV, muAt, lstAt, putL, dSeq, dIfS, dExpr, dRet, dSet, putV, dNext, dMut, dSetIx, dCallM, dCall, callR, dB, dSl, pSome, pNone, slP, cutD, ofO, peek, keep, coerce, coerceAll, peekAll, gN, dTest, dBin, dV, dC, dNil, dCons, dTup, dLst, dIf, dNotT, dAndT, dOrT, dNotV, dAndV, dOrV, dM1, dIsi, tyName, isDict, kb1, kb2, kb3, kb4, kb5, kb6, kb7, kb8, kb9, kb10, kb11, kb12, R.bind, addP, subP, mulP, fdivP, modP, powP, ltP, leP, gtP, geP, ixP, intP, absP, lenP, R.bind_ok, R.bind_bad, R.bind_exc, OC.data, plainR, noMut, noMut.go, List.getElem?_cons_zero, List.getElem?_cons_succ, List.set_cons_zero, List.set_cons_succ, List.replicate]
theorem and_ok {c d : DB} {ρ : Rho} {x y : Bool} (h1 : c ρ = .ok x ρ) (h2 : d ρ = .ok y ρ) : dAndT c d ρ = .ok (x && y) ρ := by
  unfold dAndT
  rw [h1, R.bind_ok]
  cases x with
  | true => simp only [if_true, Bool.true_and]; exact h2
  | false => rfl
theorem if_step {a b r : Int} {size : Nat} {now : List Nat} {ls : List (List Nat)} {x7 : Option DV} (m : Mk now ls) (hz : size ≤ 16) (hl : ls.length + now.length < size) :
    ∃ (a' b' : Int) (now' : List Nat) (s : List Nat) (x6' x7' x8' x9' : Option DV), Mk now' (ls ++ [s]) ∧ (ls.length + 1) + now'.length ≤ size ∧
    ifD (PS a b size now ls (some (.ow (.lst (lst (freeL now))))) x7 (some (.sh (.bool (decide (ls.length + now.length + 2 ≤ size))))) (some (.sh (.int r)))) = .ok .nx (PS a' b' size now' (ls ++ [s]) x6' x7' x8' x9') := by
  have okf : okL (freeL now) := ok_abc fun d hd => (free_mem hd).1
  have okn : okL now := ok_abc m.abc
  have t8 : dTest (dV 8) (PS a b size now ls (some (.ow (.lst (lst (freeL now))))) x7 (some (.sh (.bool (decide (ls.length + now.length + 2 ≤ size))))) (some (.sh (.int r)))) = R.ok (decide (ls.length + now.length + 2 ≤ size)) (PS a b size now ls (some (.ow (.lst (lst (freeL now))))) x7 (some (.sh (.bool (decide (ls.length + now.length + 2 ≤ size))))) (some (.sh (.int r)))) := by
    simp [eqP_ss, neP_ss, eqP_ii, inP_1, Str.length, L2.atI, L2.ixN, bodyM2, bodyF, bodyV, entryM, entryR, entryV, muAt, lstAt, putL, dSeq, dIfS, dExpr, dRet, dSet, putV, dNext, dMut, dSetIx, dCallM, dCall, callR, dB, dSl, pSome, pNone, slP, cutD, ofO, peek, keep, coerce, coerceAll, peekAll, gN, dTest, dBin, dV, dC, dNil, dCons, dTup, dLst, dIf, dNotT, dAndT, dOrT, dNotV, dAndV, dOrV, dM1, dIsi, tyName, isDict, kb1, kb2, kb3, kb4, kb5, kb6, kb7, kb8, kb9, kb10, kb11, kb12, R.bind, addP, subP, mulP, fdivP, modP, powP, ltP, leP, gtP, geP, ixP, intP, absP, lenP, R.bind_ok, R.bind_bad, R.bind_exc, OC.data, plainR, noMut, noMut.go, List.getElem?_cons_zero, List.getElem?_cons_succ, List.set_cons_zero, List.set_cons_succ, List.replicate]
  have c1 := and_ok (lt9 (a := a) (b := b) (size := size) (r := r) (k := 3) (now := now) (ls := ls) (x6 := some (.ow (.lst (lst (freeL now))))) (x7 := x7) (x8 := some (.sh (.bool (decide (ls.length + now.length + 2 ≤ size)))))) (and_ok (ne_at okf) t8)
  have c2 := and_ok (lt9 (a := a) (b := b) (size := size) (r := r) (k := 4) (now := now) (ls := ls) (x6 := some (.ow (.lst (lst (freeL now))))) (x7 := x7) (x8 := some (.sh (.bool (decide (ls.length + now.length + 2 ≤ size)))))) (ne_now okn)
  cases q1 : (decide (r < 3) && (!decide (freeL now = []) && decide (ls.length + now.length + 2 ≤ size))) with
  | true =>
    rw [q1] at c1
    simp only [Bool.and_eq_true, Bool.not_eq_true', decide_eq_true_eq, decide_eq_false_iff_not] at q1
    obtain ⟨a', b', c, d, x6', x7', hc, hd, e⟩ := addStep2 (a := a) (b := b) (size := size) (ls := ls) (x7 := x7) (x8 := some (.sh (.bool (decide (ls.length + now.length + 2 ≤ size))))) (x9 := some (.sh (.int r))) q1.2.1 (by omega) (by omega)
    refine ⟨a', b', now ++ [d], [c, d], x6', x7', _, _, m.add hc (free_mem hd).1 (free_mem hd).2, ?_, (if_t c1).trans e⟩
    simp; omega
  | false =>
    rw [q1] at c1
    cases q2 : (decide (r < 4) && !decide (now = [])) with
    | true =>
      rw [q2] at c2
      simp only [Bool.and_eq_true, Bool.not_eq_true', decide_eq_true_eq, decide_eq_false_iff_not] at q2
      obtain ⟨a', b', j, d, hj, e⟩ := popStep (a := a) (b := b) (size := size) (ls := ls) (x6 := some (.ow (.lst (lst (freeL now))))) (x7 := x7) (x8 := some (.sh (.bool (decide (ls.length + now.length + 2 ≤ size))))) (x9 := some (.sh (.int r))) q2.2 (by omega) (by omega)
      have hj2 := (List.getElem?_eq_some_iff.mp hj).1
      refine ⟨a', b', now.eraseIdx j, [45, d], _, _, _, _, m.pop hj, ?_, (if_f c1).trans ((if_t c2).trans e)⟩
      rw [List.length_eraseIdx, if_pos hj2]; omega
    | false =>
      rw [q2] at c2
      refine ⟨a, b, now, [46], _, _, _, _, m.dot, ?_, (if_f c1).trans ((if_f c2).trans (dotStep (by omega)))⟩
      omega

abbrev lcond : DB := dTest (dBin ltP (dBin addP (dB lenP (dCons (dV 5) dNil)) (dB lenP (dCons (dV 4) dNil))) (dV 3))
theorem body_step {a b : Int} {size : Nat} {now : List Nat} {ls : List (List Nat)} {x6 x7 x8 x9 : Option DV} (m : Mk now ls) (hz : size ≤ 16) (hl : ls.length + now.length < size) :
    ∃ (a' b' : Int) (now' : List Nat) (s : List Nat) (x6' x7' x8' x9' : Option DV), Mk now' (ls ++ [s]) ∧ (ls.length + 1) + now'.length ≤ size ∧
    lbody (PS a b size now ls x6 x7 x8 x9) = .ok .nx (PS a' b' size now' (ls ++ [s]) x6' x7' x8' x9') := by
  obtain ⟨x7a, e1⟩ := free_spec a b size now ls x6 x7 x8 x9
  have e2 := room_spec a b size now ls (some (.ow (.lst (lst (freeL now))))) x7a x8 x9
  obtain ⟨a1, b1, r, e3⟩ := way_spec a b size now ls (some (.ow (.lst (lst (freeL now))))) x7a (some (.sh (.bool (decide (ls.length + now.length + 2 ≤ size))))) x9
  obtain ⟨a', b', now', s, x6', x7', x8', x9', h1, h2, e4⟩ := if_step (a := a1) (b := b1) (r := r) (x7 := x7a) m hz hl
  refine ⟨a', b', now', s, x6', x7', x8', x9', h1, h2, ?_⟩
  unfold lbody
  rw [seq_nx e1, seq_nx e2, seq_nx e3, e4]
theorem while_t {c : DB} {b : DS} {n : Nat} {ρ ρ1 ρ2 : Rho} (h : c ρ = .ok true ρ1) (hb : b ρ1 = .ok .nx ρ2) : whileD c b (n + 1) ρ = whileD c b n ρ2 := by
  show ((c ρ).bind fun t ρ1 => if t = true then (b ρ1).bind fun o ρ2 => match o with
      | .nx => whileD c b n ρ2
      | .ct => whileD c b n ρ2
      | .bk => .ok .nx ρ2
      | .rt dv => .ok (.rt dv) ρ2
    else .ok .nx ρ1) = _
  rw [h, R.bind_ok, if_pos rfl, hb]
  rfl
theorem while_f {c : DB} {b : DS} {n : Nat} {ρ ρ1 : Rho} (h : c ρ = .ok false ρ1) : whileD c b (n + 1) ρ = .ok .nx ρ1 := by
  show ((c ρ).bind fun t ρ1 => if t = true then (b ρ1).bind fun o ρ2 => match o with
      | .nx => whileD c b n ρ2
      | .ct => whileD c b n ρ2
      | .bk => .ok .nx ρ2
      | .rt dv => .ok (.rt dv) ρ2
    else .ok .nx ρ1) = _
  rw [h]
  rfl
theorem loop1 (size : Nat) (hz : size ≤ 16) : ∀ (k n : Nat) (a b : Int) (now : List Nat) (ls : List (List Nat)) (x6 x7 x8 x9 : Option DV), Mk now ls → ls.length + now.length ≤ size → size - ls.length ≤ k → k < n →
    ∃ (a' b' : Int) (now' : List Nat) (ls' : List (List Nat)) (x6' x7' x8' x9' : Option DV), Mk now' ls' ∧ ls'.length + now'.length ≤ 16 ∧
    whileD lcond lbody n (PS a b size now ls x6 x7 x8 x9) = .ok .nx (PS a' b' size now' ls' x6' x7' x8' x9')
  | k, 0, _, _, _, _, _, _, _, _, _, _, _, h => absurd h (by omega)
  | k, n + 1, a, b, now, ls, x6, x7, x8, x9, m, h1, h2, h3 => by
    have c := cond_spec a b size now ls x6 x7 x8 x9
    by_cases q : ls.length + now.length < size
    · rw [decide_eq_true q] at c
      obtain ⟨a', b', now', s, y6, y7, y8, y9, m', h', e⟩ := body_step (a := a) (b := b) (x6 := x6) (x7 := x7) (x8 := x8) (x9 := x9) m hz q
      obtain ⟨a2, b2, now2, ls2, z6, z7, z8, z9, m2, h2', e2⟩ := loop1 size hz (k - 1) n a' b' now' (ls ++ [s]) y6 y7 y8 y9 m' (by simp; omega) (by simp; omega) (by omega)
      exact ⟨a2, b2, now2, ls2, z6, z7, z8, z9, m2, h2', (while_t c e).trans e2⟩
    · rw [decide_eq_false q] at c
      exact ⟨a, b, now, ls, x6, x7, x8, x9, m, by omega, while_f c⟩
theorem loop2 : ∀ (n : Nat) (a b size : Int) (now : List Nat) (ls : List (List Nat)) (x6 x7 x8 x9 : Option DV), Mk now ls → ls.length + now.length ≤ 16 → now.length < n →
    ∃ (a' b' : Int) (ls' : List (List Nat)), Mk [] ls' ∧ ls'.length ≤ 16 ∧
    whileD (dTest (dBin neP (dV 4) (dLst dNil))) (dSet 5 (dBin addP (dV 5) (dTup (dCons popD dNil)))) n (PS a b size now ls x6 x7 x8 x9) = .ok .nx (PS a' b' size [] ls' x6 x7 x8 x9)
  | 0, _, _, _, _, _, _, _, _, _, _, _, h => absurd h (by omega)
  | n + 1, a, b, size, now, ls, x6, x7, x8, x9, m, h1, h3 => by
    have c := ne_now (a := a) (b := b) (size := size) (ls := ls) (x6 := x6) (x7 := x7) (x8 := x8) (x9 := x9) (ok_abc m.abc)
    by_cases q : now = []
    · rw [decide_eq_true q] at c
      subst q
      exact ⟨a, b, ls, m, by simpa using h1, while_f c⟩
    · rw [decide_eq_false q] at c
      obtain ⟨a', b', j, d, hj, e⟩ := popStep (a := a) (b := b) (size := size) (ls := ls) (x6 := x6) (x7 := x7) (x8 := x8) (x9 := x9) q (by omega) (by omega)
      have hj2 := (List.getElem?_eq_some_iff.mp hj).1
      have el : (now.eraseIdx j).length = now.length - 1 := by rw [List.length_eraseIdx, if_pos hj2]
      obtain ⟨a2, b2, ls2, m2, h2, e2⟩ := loop2 n a' b' size (now.eraseIdx j) (ls ++ [[45, d]]) x6 x7 x8 x9 (m.pop hj) (by rw [el]; simp; omega) (by rw [el]; omega)
      exact ⟨a2, b2, ls2, m2, h2, (while_t c e).trans e2⟩
end G
end

section
set_option Elab.async false
set_option linter.all false
set_option maxRecDepth 100000
set_option maxHeartbeats 1000000
set_option pp.maxSteps 400
namespace G
open PySem PySem.Spec DL DH
theorem program_spec (a b : Int) : ∃ (a' b' : Int) (ls : List (List Nat)), F_law_program [.int a, .int b] [.int 16, .str (Str.ofString "abcdef")] = some ([.int a', .int b'], .sh (.tuple (ls.map strD))) ∧ goodL ls = true := by
  let ρ0 : Rho := [some (.mu (.lst [.int a, .int b])), some (.sh (.int 16)), some (.sh (.str (Str.ofString "abcdef"))), none, none, none, none, none, none, none]
  have h1 : dCons (dBin addP (dV 1) (dC (.int 1))) dNil ρ0 = .ok [.sh (.int 17)] ρ0 := rfl
  obtain ⟨a1, b1, r, e1, r0, r1⟩ := callU (i := 0) (ρ := ρ0) (m := 17) rfl h1 (by decide) (by decide)
  obtain ⟨z, rfl⟩ : ∃ z : Nat, r = (z : Int) := ⟨r.toNat, by omega⟩
  have s1 : dPar3 3 4 5 (dCallM F_law_under 0 (dCons (dBin addP (dV 1) (dC (.int 1))) dNil)) (dLst dNil) (dTup dNil) ρ0 = .ok .nx (PS a1 b1 z [] [] none none none none) := by
    unfold dPar3
    rw [e1, R.bind_ok]
    rfl
  have m0 : Mk [] [] := ⟨rfl, rfl, List.nodup_nil, fun d hd => nomatch hd⟩
  obtain ⟨a2, b2, now2, ls2, x6, x7, x8, x9, m2, l2, e2⟩ := loop1 z (by omega) 17 200 a1 b1 [] [] none none none none m0 (by simp) (by simp; omega) (by decide)
  obtain ⟨a3, b3, ls3, m3, l3, e3⟩ := loop2 40 a2 b2 z now2 ls2 x6 x7 x8 x9 m2 l2 (by omega)
  refine ⟨a3, b3, ls3, ?_, ?_⟩
  · have e : d_law_program ρ0 = .ok (.rt (.sh (.tuple (ls3.map strD)))) (PS a3 b3 z [] ls3 x6 x7 x8 x9) := by
      show dSeq (dPar3 3 4 5 (dCallM F_law_under 0 (dCons (dBin addP (dV 1) (dC (.int 1))) dNil)) (dLst dNil) (dTup dNil)) (dSeq (whileD lcond lbody 200) (dSeq (whileD (dTest (dBin neP (dV 4) (dLst dNil))) (dSet 5 (dBin addP (dV 5) (dTup (dCons popD dNil)))) 40) (dRet (dV 5)))) ρ0 = _
      rw [seq_nx s1, seq_nx e2, seq_nx e3]
      rfl
    show bodyM2 10 d_law_program [.int a, .int b] [.int 16, .str (Str.ofString "abcdef")] = _
    unfold bodyM2
    show (match d_law_program ρ0 with
      | R.ok (SO.rt (.sh d)) ρ => if muAt ρ = true then (lstAt ρ 0).map fun c' => (c', DV.sh d) else none
      | R.ok (SO.rt (.ow oc)) ρ => if muAt ρ = true then (lstAt ρ 0).map fun c' => (c', DV.ow oc) else none
      | R.ok SO.nx ρ => if muAt ρ = true then (lstAt ρ 0).map fun c' => (c', DV.sh .none) else none
      | _ => none) = _
    rw [e]
    rfl
  · unfold goodL
    simp [m3.run, m3.steps, l3]
/-! ### what is refused -/
def badL : List PyData := [.none, .list [.str "."], .tuple [.str "+a"], .tuple [.str "-a"], .tuple [.str "+a", .str "+a", .str "-a"], .tuple [.str "+a", .str "=a", .str "-a"], .tuple [.str "+g", .str "-g"], .tuple (List.replicate 17 (.str ".")), .tuple [.str "a"], .tuple [.str "+a", .str "-a", .str "-a"], .str "+a -a", .tuple [.none], .tuple [.str ""], .tuple [.str "+A", .str "-A"], .tuple [.str "+ab", .str "-ab"], .tuple [.str ".", .str ".."], .int 1]
theorem bad_list : F_law_bad_programs [] = some (.ok (.ow (.lst badL))) := by kernel_rfl
theorem bad_each : ∀ d ∈ badL, F_program_text [d] = some (.exc "InvalidProgram") := by
  have h : (badL.all fun d => match F_program_text [d] with | some (.exc c) => c == ("InvalidProgram" : Str) | _ => false) = true := by kernel_rfl
  intro d hd
  have := List.all_eq_true.mp h d hd
  split at this
  · rename_i c q
    rw [q, eq_of_beq this]
  · cases this
theorem nmc_P : nmc "InvalidProgram" = some (Str.ofString "program value") := by kernel_rfl
theorem nmc_T : nmc "InvalidText" = some (Str.ofString "text value") := by kernel_rfl
theorem pv_ne : neP (.str (Str.ofString "program value")) (.str (Str.ofString "program value")) = some (.sh (.bool false)) := by kernel_rfl
theorem tv_ne : neP (.str (Str.ofString "text value")) (.str (Str.ofString "text value")) = some (.sh (.bool false)) := by kernel_rfl
theorem bad_refused (f : Addr) : F_law_all_refused f F_program_text [.list badL, .str "program value"] = some (.sh (.bool true)) := by
  let ρ : Rho := [some (.op f), some (.sh (.list badL)), some (.sh (.str "program value")), none]
  have hc : ∀ d ∈ badL, dTest (dBin neP (dErr "" nmc (dCallV 0 f F_program_text (dCons (dV 3) dNil))) (dV 2)) (ρ.set 3 (some (.sh d))) = .ok false (ρ.set 3 (some (.sh d))) := fun d hd => by
    have e1 : dCallV 0 f F_program_text (dCons (dV 3) dNil) (ρ.set 3 (some (.sh d))) = R.exc "InvalidProgram" (ρ.set 3 (some (.sh d))) := by
      show (if f = f then dCall F_program_text (dCons (dV 3) dNil) (ρ.set 3 (some (.sh d))) else R.bad) = _
      rw [if_pos rfl]
      show callR F_program_text [.sh d] (ρ.set 3 (some (.sh d))) = _
      show (match F_program_text [d] with
        | none => R.bad
        | some (.exc c) => R.exc c (ρ.set 3 (some (.sh d)))
        | some (.ok dv) => if plainR dv = true then .ok dv (ρ.set 3 (some (.sh d))) else (coerceAll [.sh d] (ρ.set 3 (some (.sh d)))).bind fun _ ρ1 => .ok dv ρ1) = _
      rw [bad_each d hd]
    have e2 : dErr "" nmc (dCallV 0 f F_program_text (dCons (dV 3) dNil)) (ρ.set 3 (some (.sh d))) = .ok (.sh (.str "program value")) (ρ.set 3 (some (.sh d))) := by
      unfold dErr
      rw [e1]
      dsimp only
      rw [nmc_P]
    have e3 : dBin neP (dErr "" nmc (dCallV 0 f F_program_text (dCons (dV 3) dNil))) (dV 2) (ρ.set 3 (some (.sh d))) = .ok (.sh (.bool false)) (ρ.set 3 (some (.sh d))) := bin_sh e2 rfl pv_ne
    unfold dTest
    rw [e3]
    rfl
  have e := lcD_sel (i := 3) (ρ := ρ) rfl (r := fun _ => false) badL [] hc (by decide)
  have e0 : badL.filter (fun _ => false) = [] := by simp
  rw [e0, List.append_nil] at e
  have e2 : dLc (iSeq (dV 1)) (gN 3) (dTest (dBin neP (dErr "" nmc (dCallV 0 f F_program_text (dCons (dV 3) dNil))) (dV 2))) (dV 3) [3] ρ = R.ok (DV.ow (.lst [])) ρ := by
    show (match lcD (gN 3) (dTest (dBin neP (dErr "" nmc (dCallV 0 f F_program_text (dCons (dV 3) dNil))) (dV 2))) (dV 3) [3] badL [] ρ with
      | R.ok zs ρ2 => R.ok (DV.ow (.lst zs)) (restoreR ρ2 ρ [3])
      | _ => R.bad) = _
    rw [e]
    rfl
  have e3 : d_law_all_refused f F_program_text ρ = .ok (.rt (.sh (.bool true))) ρ := by
    unfold d_law_all_refused
    generalize dLc (iSeq (dV 1)) (gN 3) (dTest (dBin neP (dErr "" nmc (dCallV 0 f F_program_text (dCons (dV 3) dNil))) (dV 2))) (dV 3) [3] = δ at e2 ⊢
    have q : eqP (.list []) (.list []) = some (.sh (.bool true)) := by kernel_rfl
    simp [eqP_ss, neP_ss, eqP_ii, inP_1, Str.length, L2.atI, L2.ixN, bodyM2, bodyF, bodyV, entryM, entryR, entryV, muAt, lstAt, putL, dSeq, dIfS, dExpr, dRet, dSet, putV, dNext, dMut, dSetIx, dCallM, dCall, callR, dB, dSl, pSome, pNone, slP, cutD, ofO, peek, keep, coerce, coerceAll, peekAll, gN, dTest, dBin, dV, dC, dNil, dCons, dTup, dLst, dIf, dNotT, dAndT, dOrT, dNotV, dAndV, dOrV, dM1, dIsi, tyName, isDict, kb1, kb2, kb3, kb4, kb5, kb6, kb7, kb8, kb9, kb10, kb11, kb12, R.bind, addP, subP, mulP, fdivP, modP, powP, ltP, leP, gtP, geP, ixP, intP, absP, lenP, R.bind_ok, R.bind_bad, R.bind_exc, OC.data, plainR, noMut, noMut.go, List.getElem?_cons_zero, List.getElem?_cons_succ, List.set_cons_zero, List.set_cons_succ, List.replicate, e2, q]
  show bodyV 4 f (d_law_all_refused f F_program_text) [.list badL, .str "program value"] = _
  unfold bodyV
  rw [show entryV 4 f [.list badL, .str "program value"] = ρ from rfl, e3]
end G
end

section
set_option Elab.async false
set_option linter.all false
set_option maxRecDepth 100000
set_option maxHeartbeats 1000000
set_option pp.maxSteps 400
namespace G
open PySem PySem.Spec DL DH
theorem ret_l2 {δ ε : DE} {ρ ρ1 ρ2 : Rho} {a b : PyData} (h1 : δ ρ = .ok (.sh a) ρ1) (h2 : ε ρ1 = .ok (.sh b) ρ2) : dRet (dLst (dCons δ (dCons ε dNil))) ρ = .ok (.rt (.ow (.lst [a, b]))) ρ2 := by
  unfold dRet dLst dCons
  rw [h1, R.bind_ok]
  rw [h2, R.bind_ok]
  rfl
theorem vat_spec (ns : List Int) (k : Nat) (hk : k < 1000) : ∃ a b : Int, F_law_vat [.list (ns.map .int), .int (k : Int)] = some (.ok (.ow (.lst [.int a, .int b]))) := by
  have e1 : ((k : Int)).natAbs < 18446744073709551616 := by omega
  let ρ0 : Rho := [some (.sh (.list (ns.map .int))), some (.sh (.int (k : Int))), none]
  have s1 : dSet 2 (dBin addP (dBin mulP (dC (.int 7919)) (dV 1)) (dC (.int 43))) ρ0 = .ok .nx [some (.sh (.list (ns.map .int))), some (.sh (.int (k : Int))), some (.sh (.int (7919 * (k : Int) + 43)))] := by
    simp [ρ0, eqP_ss, neP_ss, eqP_ii, inP_1, Str.length, L2.atI, L2.ixN, bodyM2, bodyF, bodyV, entryM, entryR, entryV, muAt, lstAt, putL, dSeq, dIfS, dExpr, dRet, dSet, putV, dNext, dMut, dSetIx, dCallM, dCall, callR, dB, dSl, pSome, pNone, slP, cutD, ofO, peek, keep, coerce, coerceAll, peekAll, gN, dTest, dBin, dV, dC, dNil, dCons, dTup, dLst, dIf, dNotT, dAndT, dOrT, dNotV, dAndV, dOrV, dM1, dIsi, tyName, isDict, kb1, kb2, kb3, kb4, kb5, kb6, kb7, kb8, kb9, kb10, kb11, kb12, R.bind, addP, subP, mulP, fdivP, modP, powP, ltP, leP, gtP, geP, ixP, intP, absP, lenP, R.bind_ok, R.bind_bad, R.bind_exc, OC.data, plainR, noMut, noMut.go, List.getElem?_cons_zero, List.getElem?_cons_succ, List.set_cons_zero, List.set_cons_succ, List.replicate]
  have s2 : ∃ c : Int, dIfS (dTest (dBin ltP (dV 1) (dB lenP (dCons (dV 0) dNil)))) (dSet 2 (dB absP (dCons (dB intP (dCons (dBin ixP (dV 0) (dV 1)) dNil)) dNil))) dNext [some (.sh (.list (ns.map .int))), some (.sh (.int (k : Int))), some (.sh (.int (7919 * (k : Int) + 43)))] = .ok .nx [some (.sh (.list (ns.map .int))), some (.sh (.int (k : Int))), some (.sh (.int c))] := by
    by_cases h : k < ns.length
    · refine ⟨if ns[k] < 0 then -ns[k] else ns[k], ?_⟩
      have q : ((k : Int) < (ns.length : Int)) := by omega
      simp [eqP_ss, neP_ss, eqP_ii, inP_1, Str.length, L2.atI, L2.ixN, bodyM2, bodyF, bodyV, entryM, entryR, entryV, muAt, lstAt, putL, dSeq, dIfS, dExpr, dRet, dSet, putV, dNext, dMut, dSetIx, dCallM, dCall, callR, dB, dSl, pSome, pNone, slP, cutD, ofO, peek, keep, coerce, coerceAll, peekAll, gN, dTest, dBin, dV, dC, dNil, dCons, dTup, dLst, dIf, dNotT, dAndT, dOrT, dNotV, dAndV, dOrV, dM1, dIsi, tyName, isDict, kb1, kb2, kb3, kb4, kb5, kb6, kb7, kb8, kb9, kb10, kb11, kb12, R.bind, addP, subP, mulP, fdivP, modP, powP, ltP, leP, gtP, geP, ixP, intP, absP, lenP, R.bind_ok, R.bind_bad, R.bind_exc, OC.data, plainR, noMut, noMut.go, List.getElem?_cons_zero, List.getElem?_cons_succ, List.set_cons_zero, List.set_cons_succ, List.replicate, q, h]
    · refine ⟨7919 * (k : Int) + 43, ?_⟩
      have q : ¬ ((k : Int) < (ns.length : Int)) := by omega
      simp [eqP_ss, neP_ss, eqP_ii, inP_1, Str.length, L2.atI, L2.ixN, bodyM2, bodyF, bodyV, entryM, entryR, entryV, muAt, lstAt, putL, dSeq, dIfS, dExpr, dRet, dSet, putV, dNext, dMut, dSetIx, dCallM, dCall, callR, dB, dSl, pSome, pNone, slP, cutD, ofO, peek, keep, coerce, coerceAll, peekAll, gN, dTest, dBin, dV, dC, dNil, dCons, dTup, dLst, dIf, dNotT, dAndT, dOrT, dNotV, dAndV, dOrV, dM1, dIsi, tyName, isDict, kb1, kb2, kb3, kb4, kb5, kb6, kb7, kb8, kb9, kb10, kb11, kb12, R.bind, addP, subP, mulP, fdivP, modP, powP, ltP, leP, gtP, geP, ixP, intP, absP, lenP, R.bind_ok, R.bind_bad, R.bind_exc, OC.data, plainR, noMut, noMut.go, List.getElem?_cons_zero, List.getElem?_cons_succ, List.set_cons_zero, List.set_cons_succ, List.replicate, q]
  obtain ⟨c, s2⟩ := s2
  have s3 : ∃ a : Int, dIf (dTest (dBin geP (dV 2) (dBin powP (dC (.int 10)) (dC (.int 18))))) (dV 2) (dC (.int 0)) [some (.sh (.list (ns.map .int))), some (.sh (.int (k : Int))), some (.sh (.int c))] = .ok (.sh (.int a)) [some (.sh (.list (ns.map .int))), some (.sh (.int (k : Int))), some (.sh (.int c))] := by
    by_cases h : 1000000000000000000 ≤ c
    · refine ⟨c, ?_⟩
      simp [eqP_ss, neP_ss, eqP_ii, inP_1, Str.length, L2.atI, L2.ixN, bodyM2, bodyF, bodyV, entryM, entryR, entryV, muAt, lstAt, putL, dSeq, dIfS, dExpr, dRet, dSet, putV, dNext, dMut, dSetIx, dCallM, dCall, callR, dB, dSl, pSome, pNone, slP, cutD, ofO, peek, keep, coerce, coerceAll, peekAll, gN, dTest, dBin, dV, dC, dNil, dCons, dTup, dLst, dIf, dNotT, dAndT, dOrT, dNotV, dAndV, dOrV, dM1, dIsi, tyName, isDict, kb1, kb2, kb3, kb4, kb5, kb6, kb7, kb8, kb9, kb10, kb11, kb12, R.bind, addP, subP, mulP, fdivP, modP, powP, ltP, leP, gtP, geP, ixP, intP, absP, lenP, R.bind_ok, R.bind_bad, R.bind_exc, OC.data, plainR, noMut, noMut.go, List.getElem?_cons_zero, List.getElem?_cons_succ, List.set_cons_zero, List.set_cons_succ, List.replicate, h]
    · refine ⟨0, ?_⟩
      simp [eqP_ss, neP_ss, eqP_ii, inP_1, Str.length, L2.atI, L2.ixN, bodyM2, bodyF, bodyV, entryM, entryR, entryV, muAt, lstAt, putL, dSeq, dIfS, dExpr, dRet, dSet, putV, dNext, dMut, dSetIx, dCallM, dCall, callR, dB, dSl, pSome, pNone, slP, cutD, ofO, peek, keep, coerce, coerceAll, peekAll, gN, dTest, dBin, dV, dC, dNil, dCons, dTup, dLst, dIf, dNotT, dAndT, dOrT, dNotV, dAndV, dOrV, dM1, dIsi, tyName, isDict, kb1, kb2, kb3, kb4, kb5, kb6, kb7, kb8, kb9, kb10, kb11, kb12, R.bind, addP, subP, mulP, fdivP, modP, powP, ltP, leP, gtP, geP, ixP, intP, absP, lenP, R.bind_ok, R.bind_bad, R.bind_exc, OC.data, plainR, noMut, noMut.go, List.getElem?_cons_zero, List.getElem?_cons_succ, List.set_cons_zero, List.set_cons_succ, List.replicate, h]
  obtain ⟨a, s3⟩ := s3
  have s4 : dBin addP (dBin modP (dB intP (dCons (dBin addP (dBin addP (dBin mulP (dV 2) (dC (.int 131071))) (dBin mulP (dC (.int 8191)) (dV 1))) (dC (.int 5))) dNil)) (dC (.int 2147483629))) (dC (.int 1)) [some (.sh (.list (ns.map .int))), some (.sh (.int (k : Int))), some (.sh (.int c))] = .ok (.sh (.int ((c * 131071 + 8191 * (k : Int) + 5).fmod 2147483629 + 1))) [some (.sh (.list (ns.map .int))), some (.sh (.int (k : Int))), some (.sh (.int c))] := by
    simp [eqP_ss, neP_ss, eqP_ii, inP_1, Str.length, L2.atI, L2.ixN, bodyM2, bodyF, bodyV, entryM, entryR, entryV, muAt, lstAt, putL, dSeq, dIfS, dExpr, dRet, dSet, putV, dNext, dMut, dSetIx, dCallM, dCall, callR, dB, dSl, pSome, pNone, slP, cutD, ofO, peek, keep, coerce, coerceAll, peekAll, gN, dTest, dBin, dV, dC, dNil, dCons, dTup, dLst, dIf, dNotT, dAndT, dOrT, dNotV, dAndV, dOrV, dM1, dIsi, tyName, isDict, kb1, kb2, kb3, kb4, kb5, kb6, kb7, kb8, kb9, kb10, kb11, kb12, R.bind, addP, subP, mulP, fdivP, modP, powP, ltP, leP, gtP, geP, ixP, intP, absP, lenP, R.bind_ok, R.bind_bad, R.bind_exc, OC.data, plainR, noMut, noMut.go, List.getElem?_cons_zero, List.getElem?_cons_succ, List.set_cons_zero, List.set_cons_succ, List.replicate]
  refine ⟨a, (c * 131071 + 8191 * (k : Int) + 5).fmod 2147483629 + 1, ?_⟩
  rw [show F_law_vat [.list (ns.map .int), .int (k : Int)] = bodyF 3 d_law_vat [.list (ns.map .int), .int (k : Int)] from rfl, bodyF_fin]
  show fin (d_law_vat ρ0) = _
  unfold d_law_vat
  rw [seq_nx s1, seq_nx s2]
  rw [ret_l2 s3 s4]
  rfl
end G
end

section
set_option Elab.async false
set_option linter.all false
set_option maxRecDepth 100000
set_option maxHeartbeats 1000000
set_option pp.maxSteps 400
namespace G
open PySem PySem.Spec DL DH
/-- a text of at most n signs -/
def Nice (n : Nat) (l : List Nat) : Prop := okL l ∧ l.length ≤ n
theorem Nice.mono {n m : Nat} {l : List Nat} (h : Nice n l) (hm : n ≤ m) : Nice m l := ⟨h.1, Nat.le_trans h.2 hm⟩
theorem Nice.app {n m : Nat} {l k : List Nat} (h1 : Nice n l) (h2 : Nice m k) : Nice (n + m) (l ++ k) := ⟨fun c hc => by
    rcases List.mem_append.mp hc with h | h
    · exact h1.1 c h
    · exact h2.1 c h, by have := h1.2; have := h2.2; rw [List.length_append]; omega⟩
theorem slice_nice {n : Nat} {z : List Nat} (h : Nice n z) (lo hi : Option Int) : ∃ l, Txt.slice (mkS z) lo hi = mkS l ∧ Nice n l := by
  refine ⟨(Txt.slice (mkS z) lo hi).cps.toList, rfl, fun c hc => ?_, Nat.le_trans (Txt.slice_le (mkS z) lo hi) h.2⟩
  unfold Txt.slice at hc
  split at hc
  · exact h.1 c hc
  · have hc : c ∈ List.filterMap (fun i => (mkS z).cps[i]?) (Builtin.Str.strSliceIndices lo hi 1 (mkS z).length) := by simpa using hc
    obtain ⟨i, _, hi⟩ := List.mem_filterMap.mp hc
    have : c ∈ (mkS z).cps := Array.mem_of_getElem? hi
    exact h.1 c (by simpa [mkS] using this)
theorem sl_nice {n : Nat} {z : List Nat} (h : Nice n z) (hn : n ≤ 100000) (lo hi : Option Int) : ∃ l, slP (strD z) lo hi = some (.sh (strD l)) ∧ Nice n l := by
  obtain ⟨l, e, hl⟩ := slice_nice h lo hi
  refine ⟨l, ?_, hl⟩
  have hz : (mkS z).length ≤ 1000000 := Nat.le_trans h.2 (by omega)
  show (if (mkS z).length ≤ 1000000 then some (DV.sh (.str (Txt.slice (mkS z) lo hi))) else none) = _
  rw [if_pos hz, e]
  rfl

/-- words of together at most n signs and gaps -/
def NiceL (n : Nat) (ls : List (List Nat)) : Prop := (∀ l ∈ ls, okL l) ∧ szL ls ≤ n
theorem szL_app (a b : List (List Nat)) : szL (a ++ b) = szL a + szL b := by
  unfold szL
  rw [List.map_append, List.sum_append, List.length_append]
  omega
theorem NiceL.app {n m : Nat} {a b : List (List Nat)} (h1 : NiceL n a) (h2 : NiceL m b) : NiceL (n + m) (a ++ b) := ⟨fun l hl => by
    rcases List.mem_append.mp hl with h | h
    · exact h1.1 l h
    · exact h2.1 l h, by have := h1.2; have := h2.2; rw [szL_app]; omega⟩
theorem NiceL.one {n : Nat} {l : List Nat} (h : Nice n l) : NiceL (n + 1) [l] := ⟨fun x hx => by
    rcases List.mem_singleton.mp hx with rfl
    exact h.1, by have := h.2; simp [szL]; omega⟩
theorem NiceL.cut {n : Nat} {ls : List (List Nat)} (h : NiceL n ls) (a b : Nat) : NiceL n ((ls.drop a).take b) := ⟨fun l hl => h.1 l (List.mem_of_mem_drop (List.mem_of_mem_take hl)), by
    have e1 : szL (ls.take a) + szL (ls.drop a) = szL ls := by rw [← szL_app, List.take_append_drop]
    have e2 : szL ((ls.drop a).take b) + szL ((ls.drop a).drop b) = szL (ls.drop a) := by rw [← szL_app, List.take_append_drop]
    have := h.2
    omega⟩
theorem cut_nice {n : Nat} {ls : List (List Nat)} (h : NiceL n ls) (lo hi : Option Int) : ∃ vs, slP (.list (ls.map strD)) lo hi = some (.ow (.lst (vs.map strD))) ∧ NiceL n vs := by
  refine ⟨_, ?_, h.cut (HT.sIx ls.length 0 lo) (HT.sIx ls.length ls.length hi - HT.sIx ls.length 0 lo)⟩
  show some (DV.ow (.lst (cutD (ls.map strD) lo hi))) = _
  unfold cutD
  rw [List.length_map, List.map_take, List.map_drop]
theorem NiceL.jn {n : Nat} {ls : List (List Nat)} (h : NiceL n ls) : Nice n (jn ls) := ⟨fun c hc => by
    rcases jn_mem ls c hc with h1 | ⟨l, hl, hc⟩
    · omega
    · exact h.1 l hl c hc, Nat.le_trans (jn_len ls) h.2⟩
theorem Nice.spl {n : Nat} {z : List Nat} (h : Nice n z) : NiceL (n + 1) (spl z) := ⟨fun l hl c hc => h.1 c (spl_mem z l hl c hc), by rw [spl_sz]; have := h.2; omega⟩
end G
end

section
set_option Elab.async false
set_option linter.all false
set_option maxRecDepth 100000
set_option maxHeartbeats 1000000
set_option pp.maxSteps 500
namespace G
open PySem PySem.Spec DL DH
local macro_rules | `(tactic| walk_at "op") => `(tactic| first | assumption | exact rfl)
local macro_rules | `(tactic| walk_at "nm") => `(tactic| try dsimp only [putL, List.set, List.getElem?_cons_zero, List.getElem?_cons_succ])
local macro_rules | `(tactic| walk_at "v") => `(tactic| (first
  | (with_reducible refine ws_seq ?_)
  | (with_reducible refine seqK_nx ?_)
  | (with_reducible refine seqK_rt ?_)
  | (with_reducible refine seqK_bk ?_)
  | (with_reducible refine seqK_ct ?_)
  | (with_reducible refine wp_C ?_)
  | (with_reducible refine wp_bin ?_)
  | (with_reducible refine wp_test ?_)
  | (with_reducible refine wp_cons ?_)
  | (with_reducible refine wp_nil ?_)
  | (with_reducible refine ws_set ?_)
  | (with_reducible refine wp_B ?_)
  | (with_reducible refine wp_tup ?_)
  | (with_reducible refine wp_lst ?_)
  | (with_reducible refine wp_call ?_)
  | (with_reducible refine wp_callFV ?_)
  | (with_reducible refine wp_notT ?_)
  | (with_reducible refine wp_andT ?_)
  | (with_reducible refine wp_orT ?_)
  | (with_reducible refine wp_notV ?_)
  | (with_reducible refine wp_andV ?_)
  | (with_reducible refine wp_orV ?_)
  | (with_reducible refine wp_if ?_)
  | (with_reducible refine ws_if ?_)
  | (with_reducible refine ws_ret ?_)
  | (with_reducible refine wr_sh ?_)
  | (with_reducible refine wr_ow ?_)
  | (with_reducible refine ws_expr ?_)
  | (with_reducible refine ws_for ?_)
  | (with_reducible refine ws_next ?_)
  | (with_reducible refine wp_M1 ?_)
  | (with_reducible refine wp_sl ?_)
  | (with_reducible refine wp_pNone ?_)
  | (with_reducible refine wp_pSome ?_)
  | (with_reducible refine wi_seq ?_)
  | (with_reducible refine wi_tup ?_)
  | (with_reducible refine wi_str ?_)
  | (with_reducible refine wi_range1 ?_)
  | (with_reducible refine ws_par2 ?_)
  | (with_reducible refine ws_par3 ?_)
  | (with_reducible refine ws_asg ?_)
  | (with_reducible refine wp_lc ?_)
  | (with_reducible refine wp_err ?_)
  | (with_reducible refine wp_told ?_)
  | (with_reducible refine wp_yes ?_)
  | (with_reducible refine wi_range2 ?_)
  | (with_reducible refine ⟨fun _ => ?_, fun z => Bool.noConfusion z⟩)
  | (with_reducible refine ⟨fun z => Bool.noConfusion z, fun _ => ?_⟩)
  | ((with_reducible refine' wp_V ?h0 ?_); (case h0 => exact rfl))
  | ((with_reducible refine' w2 ?h0 ?h1 ?h2 ?_); (case h0 => exact rfl); (case h1 => exact rfl); (case h2 => ((try dsimp only [OC.data]); walk_at "op")))
  | ((with_reducible refine' w1T ?h0 ?_); (case h0 => exact rfl))
  | ((with_reducible refine' wC ?h0 ?_); (case h0 => exact rfl))
  | ((with_reducible refine' wB ?h0 ?h1 ?_); (case h0 => exact rfl); (case h1 => ((try dsimp only [OC.data]); walk_at "op")))
  | ((with_reducible refine' wM ?h0 ?h1 ?_); (case h0 => exact rfl); (case h1 => ((try dsimp only [OC.data]); walk_at "op")))
  | ((with_reducible refine' wSt ?h0 ?_); (case h0 => exact rfl))
  | ((with_reducible refine' wI ?h0 ?_); (case h0 => exact rfl))
  | ((with_reducible refine' wP0 ?h0 ?h1 ?_); (case h0 => exact rfl); (case h1 => assumption))
  | ((with_reducible refine' wMu ?h0 ?h1 ?_); (case h0 => exact rfl); (case h1 => ((try dsimp only [OC.data]); walk_at "op")))
  | ((with_reducible refine' wput_sh ?h0 ?_); (case h0 => exact Nat.le_of_ble_eq_true rfl))
  | ((with_reducible refine' wput_ow ?h0 ?_); (case h0 => exact Nat.le_of_ble_eq_true rfl))
  | ((with_reducible refine' wput_bw ?h0 ?h1 ?_); (case h0 => exact Nat.le_of_ble_eq_true rfl); (case h1 => exact rfl))
  | ((with_reducible refine' wp_mut ?h0 ?_); (case h0 => exact rfl))
  | ((with_reducible refine' wp_callM ?h0 ?_); (case h0 => exact rfl))
  | ((with_reducible refine' wp_callV ?h0 ?_); (case h0 => exact rfl))
  | ((with_reducible refine' wr_bwS ?h0 ?_); (case h0 => exact rfl))
  | ((with_reducible refine' wr_bwO ?h0 ?_); (case h0 => exact rfl))
  | ((with_reducible refine' wFl ?h0 ?_); (case h0 => exact rfl))
  | ((with_reducible refine' wL2 ?h0 ?h1 ?_); (case h0 => exact Nat.le_of_ble_eq_true rfl); (case h1 => exact Nat.le_of_ble_eq_true rfl))
  | ((with_reducible refine' wG ?h0 ?_); (case h0 => exact rfl))
  | ((with_reducible refine' wLe ?h0 ?_); (case h0 => exact Nat.le_of_ble_eq_true rfl))
  | ((with_reducible refine' wLi ?h0 ?_); (case h0 => exact rfl))
  | ((with_reducible refine' wTu ?h0 ?_); (case h0 => exact rfl))
  | ((with_reducible refine' wOn ?h0 ?_); (case h0 => exact rfl))
  | ((with_reducible refine' wRg ?h0 ?_); (case h0 => (constructor <;> omega)))))
local macro_rules | `(tactic| walk_at "s") => `(tactic| (walk_at "nm"; repeat walk_at "v"; walk_at "nm"))
local macro_rules | `(tactic| walk_at "tt") => `(tactic| first
  | (refine ⟨fun _ => ?_, fun z => Bool.noConfusion z⟩)
  | (refine ⟨fun z => Bool.noConfusion z, fun _ => ?_⟩))
theorem lenP_s {l : List Nat} (h : l.length ≤ 1000000) : lenP [strD l] = some (.sh (.int (l.length : Int))) := by
  show (if (mkS l).length ≤ 1000000 then some (DV.sh (.int (mkS l).length)) else none) = _
  rw [if_pos (show (mkS l).length ≤ 1000000 from h)]
  rfl
theorem wfm_under {i : Nat} {m a b : Int} {ρ : Rho} {Q : DV → Rho → Prop} (h0 : lstAt ρ i = some [.int a, .int b]) (hm : 0 < m) (hm2 : m < 1000) (q : ∀ a' b' r, 0 ≤ r → r < m → Q (.sh (.int r)) (putL ρ i [.int a', .int b'])) : WFM F_law_under i [.int m] ρ Q := by
  obtain ⟨a', b', r, e, h1, h2⟩ := under_spec a b m hm hm2
  exact wFM h0 e (q a' b' r h1 h2)
theorem wfm_some {i : Nat} {a b : Int} {ds : List PyData} {ρ : Rho} {Q : DV → Rho → Prop} (h0 : lstAt ρ i = some [.int a, .int b]) (hm : ds ≠ []) (hm2 : ds.length < 1000) (q : ∀ (a' b' : Int) (j : Nat) (d : PyData), ds[j]? = some d → Q (.sh d) (putL ρ i [.int a', .int b'])) : WFM F_law_some i [.list ds] ρ Q := by
  obtain ⟨a', b', r, d, h1, e⟩ := some_list a b ds hm hm2
  exact wFM h0 e (q a' b' r d h1)
theorem wfm_program {i : Nat} {a b : Int} {ρ : Rho} {Q : DV → Rho → Prop} (h0 : lstAt ρ i = some [.int a, .int b]) (q : ∀ a' b' ls, goodL ls = true → Q (.sh (.tuple (ls.map strD))) (putL ρ i [.int a', .int b'])) : WFM F_law_program i [.int 16, .str (Str.ofString "abcdef")] ρ Q := by
  obtain ⟨a', b', ls, e, h⟩ := program_spec a b
  exact wFM h0 e (q a' b' ls h)
theorem add_str {n m : Nat} {a b : List Nat} (h1 : Nice n a) (h2 : Nice m b) (hn : n + m ≤ 1000000) : addP (strD a) (strD b) = some (.sh (strD (a ++ b))) := by
  have e : (mkS a).length + (mkS b).length ≤ 1000000 := Nat.le_trans (Nat.add_le_add h1.2 h2.2) hn
  show (if (mkS a).length + (mkS b).length ≤ 1000000 then some (DV.sh (.str (mkS a ++ mkS b))) else none) = _
  rw [if_pos e]
  have : mkS a ++ mkS b = mkS (a ++ b) := by
    apply Str.ext'
    simp [mkS, Str.cps_append]
  rw [this]
  rfl
abbrev LS (sc : PyData) (k a b : Int) (one : List (List Nat)) (text : List Nat) (x5 x6 x7 x8 x9 x10 x11 x12 x13 : Option DV) : Rho :=
  [some (.sh sc), some (.sh (.int k)), some (.ow (.lst [.int a, .int b])), some (.sh (.tuple (one.map strD))), some (.sh (strD text)), x5, x6, x7, x8, x9, x10, x11, x12, x13, none, none, none, none]
local macro_rules | `(tactic| walk_at "op") => `(tactic| with_reducible exact lenP_s (by assumption))
theorem wif_join {t : Bool} {δ ε : DE} {ρ : Rho} {v : DV} {Q : DV → Rho → Prop} {X : Str → Rho → Prop} (h1 : t = true → Wp (δ ρ) (fun x ρ2 => x = v ∧ ρ2 = ρ) fun _ _ => False) (h2 : t = false → Wp (ε ρ) (fun x ρ2 => x = v ∧ ρ2 = ρ) fun _ _ => False) (q : Q v ρ) : (t = true → Wp (δ ρ) Q X) ∧ (t = false → Wp (ε ρ) Q X) := by
  refine ⟨fun h => ?_, fun h => ?_⟩
  · obtain ⟨x, ρ2, e, rfl, rfl⟩ := (h1 h).get
    exact Wp.eq e q
  · obtain ⟨x, ρ2, e, rfl, rfl⟩ := (h2 h).get
    exact Wp.eq e q
theorem eqv_noth (z : List Nat) : (strD z).eqv (.str (Str.ofString "nothing")) = decide (z = nothL) := by
  rw [noth]
  exact eqv_s z nothL
theorem shp_pair {ls : List (List Nat)} (h : ∀ l ∈ ls, okL l) : SeqAt.shaped (.tuple [.tuple (ls.map strD), .str (Str.ofString "")]) = true := by
  have e := shaped_t h
  unfold SeqAt.shaped at e ⊢
  simp only [PyData.canLay0, PyData.canLayAll0, PyData.depth, PyData.depthAll, depth_strs, Bool.and_eq_true, decide_eq_true_eq] at e ⊢
  refine ⟨⟨e.1, by kernel_rfl, trivial⟩, by decide⟩
theorem ne_pair {ls : List (List Nat)} (h : ∀ l ∈ ls, okL l) : neP (.tuple [.tuple (ls.map strD), .str (Str.ofString "")]) (.tuple [.tuple (ls.map strD), .str (Str.ofString "")]) = some (.sh (.bool false)) := by
  unfold neP
  rw [shp_pair h, Bool.and_self, Bool.or_true, if_pos rfl]
  have : PyData.eqv (.tuple [.tuple (ls.map strD), .str (Str.ofString "")]) (.tuple [.tuple (ls.map strD), .str (Str.ofString "")]) = true := by
    simp [PyData.eqv, PyData.eqvAll, eqv_strs]
  rw [this]
  rfl
theorem ne_bad : neP (.tuple [.none, .str (Str.ofString "text value")]) (.tuple [.none, .str (Str.ofString "text value")]) = some (.sh (.bool false)) := by kernel_rfl
theorem go_strs : ∀ ls : List (List Nat), noMut.go (ls.map strD) = true
  | [] => rfl
  | l :: ls => by
    show (noMut (strD l) && noMut.go (ls.map strD)) = true
    rw [go_strs ls]; rfl
theorem plain_strs (ls : List (List Nat)) : plainR (.sh (.tuple (ls.map strD))) = true := go_strs ls
local macro_rules | `(tactic| walk_at "op") => `(tactic| with_reducible first | exact ne_pair (by assumption) | exact ne_bad)
def signL : List (List Nat) := [[32], [43], [97], [45, 98], [32, 46], [61], [10], nothL, [46]]
theorem sign_ds : ([.str (Str.ofString " "), .str (Str.ofString "+"), .str (Str.ofString "a"), .str (Str.ofString "-b"), .str (Str.ofString " ."), .str (Str.ofString "="), .str (Str.ofString "\n"), .str (Str.ofString "nothing"), .str (Str.ofString ".")] : List PyData) = signL.map strD := by kernel_rfl
theorem sign_nice : ∀ l ∈ signL, Nice 7 l := by
  intro l hl
  simp [signL, nothL] at hl
  rcases hl with h | h | h | h | h | h | h | h | h <;> subst h <;> exact ⟨by unfold okL; decide, by decide⟩
section
variable {sc : PyData} {k a b : Int} {one : List (List Nat)} {text : List Nat} {x5 x6 x7 x8 x9 x10 x11 x12 x13 : Option DV}
abbrev inner : DS := (dSeq (dPar2 6 7 (dCallM F_law_under 2 (dCons (dBin addP (dB lenP (dCons (dV 4) dNil)) (dC (.int 1))) dNil)) (dM1 splitP (dV 4) (dC (.str (" " : Str)))))
    (dSeq (dSet 8 (dCallM F_law_some 2 (dCons (dLst (dCons (dC (.str (" " : Str))) (dCons (dC (.str ("+" : Str))) (dCons (dC (.str ("a" : Str))) (dCons (dC (.str ("-b" : Str))) (dCons (dC (.str (" ." : Str))) (dCons (dC (.str ("=" : Str))) (dCons (dC (.str ("\n" : Str))) (dCons (dC (.str ("nothing" : Str))) (dCons (dC (.str ("." : Str))) dNil)))))))))) dNil)))
    (dSeq (dSet 9 (dCallM F_law_under 2 (dCons (dB lenP (dCons (dV 7) dNil)) dNil)))
    (dSeq (dSet 10 (dLst (dCons (dBin addP (dBin addP (dSl (dV 4) pNone (pSome (dV 6))) (dV 8)) (dSl (dV 4) (pSome (dV 6)) pNone)) (dCons (dBin addP (dSl (dV 4) pNone (pSome (dV 6))) (dSl (dV 4) (pSome (dBin addP (dV 6) (dC (.int 1)))) pNone)) (dCons (dM1 joinP (dC (.str (" " : Str))) (dBin addP (dSl (dV 7) pNone (pSome (dV 9))) (dSl (dV 7) (pSome (dBin addP (dV 9) (dC (.int 1)))) pNone))) dNil)))))
    (dSeq (dSet 11 (dCallM F_law_some 2 (dCons (dBin addP (dV 10) (dLst (dCons (dM1 joinP (dC (.str (" " : Str))) (dBin addP (dBin addP (dSl (dV 7) pNone (pSome (dV 9))) (dLst (dCons (dV 8) dNil))) (dSl (dV 7) (pSome (dBin addP (dV 9) (dC (.int 1)))) pNone))) (dCons (dBin addP (dV 4) (dC (.str (" ." : Str)))) dNil)))) dNil)))
    (dSeq (dSet 12 (dIf (dTest (dBin eqP (dV 11) (dC (.str ("nothing" : Str))))) (dTup dNil) (dB tupleP (dCons (dM1 splitP (dV 11) (dC (.str (" " : Str)))) dNil))))
    (dSeq (dSet 12 (dIf (dTest (dCall F_law_is_program (dCons (dV 12) dNil))) (dTup (dCons (dV 12) (dCons (dC (.str ("" : Str))) dNil))) (dTup (dCons (dC .none) (dCons (dC (.str ("text value" : Str))) dNil)))))
    (dIfS (dTest (dBin neP (dTold "" nmc (dCall F_read_program (dCons (dV 11) dNil))) (dV 12))) (dRet (dC (.bool false))) dNext))))))))
def QI (sc : PyData) (k : Int) (one : List (List Nat)) (text : List Nat) (o : SO) (ρ : Rho) : Prop := o = .nx ∧ ∃ a b x5 x6 x7 x8 x9 x10 x11 x12 x13, ρ = LS sc k a b one text x5 x6 x7 x8 x9 x10 x11 x12 x13
local macro_rules | `(tactic| walk_at "op") => `(tactic| exact splitP_z _ (by assumption))
theorem add_strs {n m : Nat} {a b : List (List Nat)} (h1 : NiceL n a) (h2 : NiceL m b) (hn : n + m ≤ 1000000) : addP (.list (a.map strD)) (.list (b.map strD)) = some (.ow (.lst ((a ++ b).map strD))) := by
  have e : (a.map strD).length + (b.map strD).length ≤ 1000000 := by
    have := sz_len a; have := sz_len b; have := h1.2; have := h2.2
    rw [List.length_map, List.length_map]; omega
  show (if (a.map strD).length + (b.map strD).length ≤ 1000000 then some (DV.ow (.lst (a.map strD ++ b.map strD))) else none) = _
  rw [if_pos e, List.map_append]
theorem join_nice {n : Nat} {ls : List (List Nat)} (h : NiceL n ls) (hn : n ≤ 100000) : joinP (.str (Str.ofString " ")) (.list (ls.map strD)) = some (.sh (strD (jn ls))) := joinP_l ls (Nat.le_trans h.2 (by omega))
local macro_rules | `(tactic| walk_at "op") => `(tactic| with_reducible first
  | exact add_str (by assumption) (by assumption) (by decide)
  | exact add_str (Nice.app (by assumption) (by assumption)) (by assumption) (by decide))
local macro_rules | `(tactic| walk_at "op") => `(tactic| first
  | with_reducible exact add_strs (by assumption) (by assumption) (by decide)
  | with_reducible exact add_strs (by assumption) (NiceL.one (by assumption)) (by decide)
  | with_reducible exact add_strs (NiceL.app (by assumption) (NiceL.one (by assumption))) (by assumption) (by decide))
theorem inner_ok (ht : Nice 48 text) : Wp (inner (LS sc k a b one text x5 x6 x7 x8 x9 x10 x11 x12 x13)) (QI sc k one text) fun _ _ => False := by
  have hl : text.length ≤ 1000000 := Nat.le_trans ht.2 (by omega)
  have hl2 := ht.2
  unfold inner
  walk_at "s"
  refine wfm_under rfl (by omega) (by omega) fun a1 b1 at_ _ _ => ?_
  walk_at "s"
  refine wfm_some rfl (fun z => nomatch z) (by decide) fun a2 b2 j d hd => ?_
  rw [sign_ds] at hd
  obtain ⟨s, hs, rfl⟩ := List.mem_map.mp (List.mem_of_getElem? hd)
  have ns := sign_nice s hs
  clear hd
  walk_at "s"
  have nw := ht.spl
  have wp0 : 0 < (spl text).length := by
    cases e : spl text with
    | nil => have := spl_sz text; rw [e] at this; simp [szL] at this
    | cons l r => simp
  generalize spl text = ws at nw wp0 ⊢
  have wl : ws.length ≤ 49 := Nat.le_trans (sz_len ws) nw.2
  refine wfm_under rfl (by rw [List.length_map]; omega) (by rw [List.length_map]; omega) fun a3 b3 spot _ _ => ?_
  walk_at "s"
  obtain ⟨l1, e1, n1⟩ := sl_nice ht (by decide) none (some at_)
  refine wP0 rfl e1 ?_
  walk_at "s"
  obtain ⟨l2, e2, n2⟩ := sl_nice ht (by decide) (some at_) none
  refine wP0 rfl e2 ?_
  walk_at "s"
  obtain ⟨l3, e3, n3⟩ := sl_nice ht (by decide) (some (at_ + 1)) none
  refine wP0 rfl e3 ?_
  walk_at "s"
  obtain ⟨v1, c1, m1⟩ := cut_nice nw none (some spot)
  refine wP0 rfl c1 ?_
  walk_at "s"
  obtain ⟨v2, c2, m2⟩ := cut_nice nw (some (spot + 1)) none
  refine wP0 rfl c2 ?_
  walk_at "s"
  refine wM rfl (join_nice (m1.app m2) (by decide)) ?_
  walk_at "s"
  refine w2 rfl rfl (add_strs (b := [s]) m1 (NiceL.one ns) (by decide)) ?_
  walk_at "s"
  refine wM rfl (join_nice ((m1.app (NiceL.one ns)).app m2) (by decide)) ?_
  walk_at "s"
  refine w2 rfl rfl (add_str (b := [32, 46]) ht ⟨by unfold okL; decide, Nat.le_refl 2⟩ (by decide)) ?_
  walk_at "s"
  refine wfm_some rfl (fun z => nomatch z) (by simp) fun a4 b4 j2 d hd => ?_
  have hz : ∃ z, Nice 200 z ∧ d = strD z := by
    have hm := List.mem_of_getElem? hd
    simp only [List.cons_append, List.nil_append, List.mem_cons, List.not_mem_nil, or_false] at hm
    rcases hm with h | h | h | h | h
    · exact ⟨_, ((n1.app ns).app n2).mono (by decide), h⟩
    · exact ⟨_, (n1.app n3).mono (by decide), h⟩
    · exact ⟨_, (m1.app m2).jn.mono (by decide), h⟩
    · exact ⟨_, ((m1.app (NiceL.one ns)).app m2).jn.mono (by decide), h⟩
    · exact ⟨text ++ [32, 46], (Nice.app (m := 2) (k := [32, 46]) ht ⟨by unfold okL; decide, Nat.le_refl 2⟩).mono (by decide), h⟩
  obtain ⟨z, nz, rfl⟩ := hz
  clear hd
  walk_at "s"
  have pz := prog_ok nz.1
  have lz := prog_len (z := z)
  have hz2 := nz.2
  refine wif_join (v := .sh (.tuple ((progL z).map strD))) (fun h => ?_) (fun h => ?_) ?_
  · rw [eqv_noth, decide_eq_true_eq] at h
    walk_at "s"
    exact ⟨by rw [h]; rfl, rfl⟩
  · rw [eqv_noth, decide_eq_false_iff_not] at h
    have hz3 : z.length ≤ 1000000 := by omega
    walk_at "s"
    refine ⟨?_, rfl⟩
    unfold progL
    rw [if_neg h]
  walk_at "s"
  refine WF.ok rfl (is_program_spec (progL z) (fun l hl => by have := lz.2 l hl; omega) pz (by omega)) rfl ?_
  walk_at "s"
  have rs := read_spec z (by omega)
  cases hg : goodL (progL z) with
  | true =>
    rw [hg, if_pos rfl] at rs
    refine ⟨fun _ => ?_, fun z => Bool.noConfusion z⟩
    walk_at "s"
    refine WF.ok rfl rs (plain_strs _) ?_
    walk_at "s"
    exact ⟨rfl, a4, b4, x5, _, _, _, _, _, _, _, _, rfl⟩
  | false =>
    rw [hg, if_neg (by decide)] at rs
    refine ⟨fun z => Bool.noConfusion z, fun _ => ?_⟩
    walk_at "s"
    refine WF.exc rfl rs ⟨_, nmc_T, ?_⟩
    walk_at "s"
    exact ⟨rfl, a4, b4, x5, _, _, _, _, _, _, _, _, rfl⟩
end
theorem F_of_wp {n : Nat} {δ : DS} {ds : List PyData} {v : PyData} (h : Wp (δ (entryR n ds)) (fun o _ => o = .rt (.sh v)) fun _ _ => False) : bodyF n δ ds = some (.ok (.sh v)) := by
  obtain ⟨o, ρ, e, rfl⟩ := h.get
  rw [bodyF_fin, e]
  rfl
/-! ### odd texts -/
theorem mem_spl : ∀ (z : List Nat) (c : Nat), c ≠ 32 → c ∈ z → ∃ l ∈ spl z, c ∈ l
  | [], _, _, h => nomatch h
  | d :: r, c, hc, h => by
    rw [spl_cons]
    by_cases hd : d = 32
    · rw [if_pos hd]
      rcases List.mem_cons.mp h with rfl | h
      · exact absurd hd hc
      · obtain ⟨l, h1, h2⟩ := mem_spl r c hc h
        exact ⟨l, List.mem_cons_of_mem _ h1, h2⟩
    · rw [if_neg hd]
      rcases List.mem_cons.mp h with rfl | h
      · cases e : spl r with
        | nil => exact ⟨[c], by simp, by simp⟩
        | cons l ls => exact ⟨c :: l, by simp, by simp⟩
      · obtain ⟨l, h1, h2⟩ := mem_spl r c hc h
        cases e : spl r with
        | nil => rw [e] at h1; exact nomatch h1
        | cons k ks =>
          rw [e] at h1
          rcases List.mem_cons.mp h1 with rfl | h1
          · exact ⟨d :: l, by simp, List.mem_cons_of_mem _ h2⟩
          · exact ⟨l, by simp [h1], h2⟩
theorem spl_ne (z : List Nat) : spl z ≠ [] := fun e => by
  have := spl_sz z
  rw [e] at this
  simp [szL] at this
theorem spl_end : ∀ z : List Nat, spl (z ++ [32]) = spl z ++ [[]]
  | [] => by decide
  | d :: r => by
    rw [List.cons_append, spl_cons, spl_cons, spl_end r]
    by_cases hd : d = 32
    · rw [if_pos hd, if_pos hd]; rfl
    · rw [if_neg hd, if_neg hd]
      cases e : spl r with
      | nil => exact absurd e (spl_ne r)
      | cons h t => rfl
theorem bad_part {z l : List Nat} (h : z ≠ nothL) (hm : l ∈ spl z) (hb : isStepL l = false) : goodL (progL z) = false := by
  unfold progL
  rw [if_neg h]
  cases q : goodL (spl z) with
  | false => rfl
  | true =>
    have := (good_parts q).2.1 l hm
    rw [hb] at this
    cases this
theorem not_noth {z : List Nat} {c : Nat} (hc : c ∈ z) (h : c ∉ nothL) : z ≠ nothL := fun e => h (e ▸ hc)
theorem bad_end (t : List Nat) : goodL (progL (t ++ [32])) = false := bad_part (l := []) (not_noth (c := 32) (by simp) (by decide)) (by rw [spl_end]; simp) rfl
theorem bad_start (t : List Nat) : goodL (progL (32 :: t)) = false := bad_part (l := []) (not_noth (c := 32) (by simp) (by decide)) (by rw [spl_cons, if_pos rfl]; simp) rfl
theorem no_nl {l : List Nat} (h : 10 ∈ l) : isStepL l = false := by
  match l, h with
  | [c], h => simp at h; subst h; rfl
  | [c, d], h =>
    simp at h
    rcases h with h | h <;> subst h <;> simp [isStepL]
  | _ :: _ :: _ :: _, _ => rfl
theorem bad_nl (t : List Nat) : goodL (progL (t ++ [10])) = false := by
  obtain ⟨l, h1, h2⟩ := mem_spl (t ++ [10]) 10 (by decide) (by simp)
  exact bad_part (not_noth (c := 10) (by simp) (by decide)) h1 (no_nl h2)
theorem odd_bad {z : List Nat} (hz : z.length ≤ 900000) (h : goodL (progL z) = false) : F_read_program [strD z] = some (.exc "InvalidText") := by
  rw [read_spec z hz, h]
  rfl
def oddL (t : List Nat) : List PyData := [.none, .int 5, strD [], strD [32], strD (t ++ [32]), strD (32 :: t), .tuple [strD t], strD (t ++ [10]), strD [43, 97], strD [110, 111, 116, 104, 105, 110, 103, 32, 46]]
theorem odd_all {t : List Nat} (ht : t.length ≤ 48) : ∀ d ∈ oddL t, F_read_program [d] = some (.exc "InvalidText") := by
  intro d hd
  simp only [oddL, List.mem_cons, List.not_mem_nil, or_false] at hd
  rcases hd with h | h | h | h | h | h | h | h | h | h <;> subst h
  · kernel_rfl
  · kernel_rfl
  · exact odd_bad (by decide) (by decide)
  · exact odd_bad (by decide) (by decide)
  · exact odd_bad (by simp; omega) (bad_end t)
  · exact odd_bad (by simp; omega) (bad_start t)
  · rfl
  · exact odd_bad (by simp; omega) (bad_nl t)
  · exact odd_bad (by decide) (by decide)
  · exact odd_bad (by decide) (by decide)
end G
end

section
set_option Elab.async false
set_option linter.all false
set_option maxRecDepth 100000
set_option maxHeartbeats 1000000
set_option pp.maxSteps 500
namespace G
open PySem PySem.Spec DL DH
local macro_rules | `(tactic| walk_at "pl") => `(tactic| exact rfl)
local macro_rules | `(tactic| walk_at "op") => `(tactic| first | assumption | exact rfl)
local macro_rules | `(tactic| walk_at "nm") => `(tactic| try dsimp only [putL, List.set, List.getElem?_cons_zero, List.getElem?_cons_succ])
local macro_rules | `(tactic| walk_at "v") => `(tactic| (first
  | (with_reducible refine ws_seq ?_)
  | (with_reducible refine seqK_nx ?_)
  | (with_reducible refine seqK_rt ?_)
  | (with_reducible refine seqK_bk ?_)
  | (with_reducible refine seqK_ct ?_)
  | (with_reducible refine wp_C ?_)
  | (with_reducible refine wp_bin ?_)
  | (with_reducible refine wp_test ?_)
  | (with_reducible refine wp_cons ?_)
  | (with_reducible refine wp_nil ?_)
  | (with_reducible refine ws_set ?_)
  | (with_reducible refine wp_B ?_)
  | (with_reducible refine wp_tup ?_)
  | (with_reducible refine wp_lst ?_)
  | (with_reducible refine wp_call ?_)
  | (with_reducible refine wp_callFV ?_)
  | (with_reducible refine wp_notT ?_)
  | (with_reducible refine wp_andT ?_)
  | (with_reducible refine wp_orT ?_)
  | (with_reducible refine wp_notV ?_)
  | (with_reducible refine wp_andV ?_)
  | (with_reducible refine wp_orV ?_)
  | (with_reducible refine wp_if ?_)
  | (with_reducible refine ws_if ?_)
  | (with_reducible refine ws_ret ?_)
  | (with_reducible refine wr_sh ?_)
  | (with_reducible refine wr_ow ?_)
  | (with_reducible refine ws_expr ?_)
  | (with_reducible refine ws_for ?_)
  | (with_reducible refine ws_next ?_)
  | (with_reducible refine wp_M1 ?_)
  | (with_reducible refine wp_sl ?_)
  | (with_reducible refine wp_pNone ?_)
  | (with_reducible refine wp_pSome ?_)
  | (with_reducible refine wi_seq ?_)
  | (with_reducible refine wi_tup ?_)
  | (with_reducible refine wi_str ?_)
  | (with_reducible refine wi_range1 ?_)
  | (with_reducible refine ws_par2 ?_)
  | (with_reducible refine ws_par3 ?_)
  | (with_reducible refine ws_asg ?_)
  | (with_reducible refine wp_lc ?_)
  | (with_reducible refine wp_err ?_)
  | (with_reducible refine wp_told ?_)
  | (with_reducible refine wp_yes ?_)
  | (with_reducible refine wi_range2 ?_)
  | (with_reducible refine ⟨fun _ => ?_, fun z => Bool.noConfusion z⟩)
  | (with_reducible refine ⟨fun z => Bool.noConfusion z, fun _ => ?_⟩)
  | ((with_reducible refine' wp_V ?h0 ?_); (case h0 => exact rfl))
  | ((with_reducible refine' w2 ?h0 ?h1 ?h2 ?_); (case h0 => exact rfl); (case h1 => exact rfl); (case h2 => ((try dsimp only [OC.data]); walk_at "op")))
  | ((with_reducible refine' w1T ?h0 ?_); (case h0 => exact rfl))
  | ((with_reducible refine' wC ?h0 ?_); (case h0 => exact rfl))
  | ((with_reducible refine' wB ?h0 ?h1 ?_); (case h0 => exact rfl); (case h1 => ((try dsimp only [OC.data]); walk_at "op")))
  | ((with_reducible refine' wM ?h0 ?h1 ?_); (case h0 => exact rfl); (case h1 => ((try dsimp only [OC.data]); walk_at "op")))
  | ((with_reducible refine' wSt ?h0 ?_); (case h0 => exact rfl))
  | ((with_reducible refine' wI ?h0 ?_); (case h0 => exact rfl))
  | ((with_reducible refine' wP0 ?h0 ?h1 ?_); (case h0 => exact rfl); (case h1 => assumption))
  | ((with_reducible refine' wMu ?h0 ?h1 ?_); (case h0 => exact rfl); (case h1 => ((try dsimp only [OC.data]); walk_at "op")))
  | ((with_reducible refine' wput_sh ?h0 ?_); (case h0 => exact Nat.le_of_ble_eq_true rfl))
  | ((with_reducible refine' wput_ow ?h0 ?_); (case h0 => exact Nat.le_of_ble_eq_true rfl))
  | ((with_reducible refine' wput_bw ?h0 ?h1 ?_); (case h0 => exact Nat.le_of_ble_eq_true rfl); (case h1 => exact rfl))
  | ((with_reducible refine' wp_mut ?h0 ?_); (case h0 => exact rfl))
  | ((with_reducible refine' wp_callM ?h0 ?_); (case h0 => exact rfl))
  | ((with_reducible refine' wp_callV ?h0 ?_); (case h0 => exact rfl))
  | ((with_reducible refine' wr_bwS ?h0 ?_); (case h0 => exact rfl))
  | ((with_reducible refine' wr_bwO ?h0 ?_); (case h0 => exact rfl))
  | ((with_reducible refine' wFl ?h0 ?_); (case h0 => exact rfl))
  | ((with_reducible refine' wL2 ?h0 ?h1 ?_); (case h0 => exact Nat.le_of_ble_eq_true rfl); (case h1 => exact Nat.le_of_ble_eq_true rfl))
  | ((with_reducible refine' wG ?h0 ?_); (case h0 => exact rfl))
  | ((with_reducible refine' WF.ok ?h0 ?h1 ?h2 ?_); (case h0 => exact rfl); (case h1 => assumption); (case h2 => walk_at "pl"))
  | ((with_reducible refine' wLe ?h0 ?_); (case h0 => exact Nat.le_of_ble_eq_true rfl))
  | ((with_reducible refine' wLi ?h0 ?_); (case h0 => exact rfl))
  | ((with_reducible refine' wTu ?h0 ?_); (case h0 => exact rfl))
  | ((with_reducible refine' wOn ?h0 ?_); (case h0 => exact rfl))
  | ((with_reducible refine' wRg ?h0 ?_); (case h0 => (constructor <;> omega)))))
local macro_rules | `(tactic| walk_at "s") => `(tactic| (walk_at "nm"; repeat walk_at "v"; walk_at "nm"))
local macro_rules | `(tactic| walk_at "tt") => `(tactic| first
  | (refine ⟨fun _ => ?_, fun z => Bool.noConfusion z⟩)
  | (refine ⟨fun z => Bool.noConfusion z, fun _ => ?_⟩))
local macro_rules | `(tactic| walk_at "op") => `(tactic| with_reducible exact lenP_s (by assumption))
abbrev RO (sc : PyData) (x1 x2 x3 x4 x5 x6 x7 x8 x9 x10 x11 x12 x13 : Option DV) : Rho := [some (.sh sc), x1, x2, x3, x4, x5, x6, x7, x8, x9, x10, x11, x12, x13, none, none, none, none]
def IvO (sc : PyData) (ρ : Rho) : Prop := ∃ x1 x2 x3 x4 x5 x6 x7 x8 x9 x10 x11 x12 x13, ρ = RO sc x1 x2 x3 x4 x5 x6 x7 x8 x9 x10 x11 x12 x13
theorem neP_ss' (a b : List Nat) : neP (strD a) (strD b) = some (.sh (.bool (!decide (a = b)))) := by
  have : PyData.eqv (strD a) (strD b) = decide (a = b) := eqv_s a b
  unfold neP
  rw [this]
  rfl
theorem neP_self_s (a : List Nat) : neP (strD a) (strD a) = some (.sh (.bool false)) := by rw [neP_ss']; simp
theorem neP_self_t {a : List (List Nat)} (h : ∀ l ∈ a, okL l) : neP (.tuple (a.map strD)) (.tuple (a.map strD)) = some (.sh (.bool false)) := by rw [neP_tt h h]; simp
local macro_rules | `(tactic| walk_at "op") => `(tactic| with_reducible first | exact neP_self_s _ | exact neP_self_t (by assumption) | exact neP_tn (by assumption))
local macro_rules | `(tactic| walk_at "pl") => `(tactic| exact plain_strs _)
theorem ford_eq {γ : DG} {b : DS} {ds ds' : List PyData} {ρ : Rho} {QS : SO → Rho → Prop} {X : Str → Rho → Prop} (h : ds = ds') (w : Wp (forD γ b ds' ρ) QS X) : Wp (forD γ b ds ρ) QS X := by rw [h]; exact w
theorem WF.okN {F : List PyData → Option FR} {dv : DV} {ρ : Rho} {Q : DV → Rho → Prop} {X : Str → Rho → Prop} (h2 : F [] = some (.ok dv)) (q : Q dv ρ) : WF F [] ρ Q X := WF.okC rfl h2 (wC rfl q) q
theorem neP_strs (z : Str) : neP (.str z) (.str z) = some (.sh (.bool false)) := by rw [neP_ss]; simp
def uD : PyData := .tuple [.str (Str.ofString "+a"), .str (Str.ofString "+b"), .str (Str.ofString "-a"), .str (Str.ofString "-b")]
def vD : PyData := .tuple [.str (Str.ofString "+b"), .str (Str.ofString "+a"), .str (Str.ofString "-b"), .str (Str.ofString "-a")]
def pD : PyData := .tuple [.str (Str.ofString "+a"), .str (Str.ofString "-a"), .str (Str.ofString "+b"), .str (Str.ofString "-b")]
def wD : PyData := .tuple [.str (Str.ofString "."), .str (Str.ofString "+a"), .str (Str.ofString "-a")]
def sD : PyData := .tuple [.str (Str.ofString "=a"), .str (Str.ofString "."), .str (Str.ofString "-a")]
theorem known_val : F_law_known [] = some (.ok (.sh (.tuple [pD, wD, uD, vD]))) := by kernel_rfl
theorem kt1 : F_program_text [uD] = some (.ok (.sh (.str (Str.ofString "+a +b -a -b")))) := by kernel_rfl
theorem kt2 : F_program_text [.tuple []] = some (.ok (.sh (.str (Str.ofString "nothing")))) := by kernel_rfl
theorem kt3 : F_read_program [.str (Str.ofString "nothing")] = some (.ok (.sh (.tuple []))) := by kernel_rfl
theorem kt4 : F_read_program [.str (Str.ofString "=a . -a")] = some (.ok (.sh sD)) := by kernel_rfl
theorem kt5 : F_program_text [vD] = some (.ok (.sh (.str (Str.ofString "+b +a -b -a")))) := by kernel_rfl
theorem kt6 : F_read_program [.str (Str.ofString "+b +a -b -a")] = some (.ok (.sh vD)) := by kernel_rfl
theorem kt7 : F_read_program [.str (Str.ofString ".")] = some (.ok (.sh (.tuple [.str (Str.ofString ".")]))) := by kernel_rfl
theorem kn1 : neP (.tuple []) (.tuple []) = some (.sh (.bool false)) := by kernel_rfl
theorem kn2 : eqP sD (.tuple [.str (Str.ofString "=a"), .str (Str.ofString "."), .str (Str.ofString "-a")]) = some (.sh (.bool true)) := by kernel_rfl
theorem kn3 : eqP vD vD = some (.sh (.bool true)) := by kernel_rfl
theorem kn4 : eqP (.tuple [.str (Str.ofString ".")]) (.tuple [.str (Str.ofString ".")]) = some (.sh (.bool true)) := by kernel_rfl
local macro_rules | `(tactic| walk_at "op") => `(tactic| with_reducible first | exact tv_ne | exact neP_strs _ | exact kn1 | exact kn2 | exact kn3 | exact kn4)
local macro_rules | `(tactic| walk_at "v") => `(tactic| ((with_reducible refine' WF.ok ?h0 ?h1 ?h2 ?_); (case h0 => exact rfl); (case h1 => with_reducible first | exact kt1 | exact kt2 | exact kt3 | exact kt4 | exact kt5 | exact kt6 | exact kt7); (case h2 => exact rfl)))
theorem law_true (f : Addr) (ns : List Int) (hl : ns.length ≤ 63) (hb : ∀ z ∈ ns, Builtin.Int.intBits z ≤ 1048576) : F_law f [.list (ns.map .int)] = some (.ok (.sh (.bool true))) := by
  have hlen : ((ns.map PyData.int).length : Int) = (ns.length : Int) := by simp
  refine (if_pos rfl).trans (F_of_wp ?_)
  show Wp (d_law f (RO (.list (ns.map .int)) none none none none none none none none none none none none none)) _ _
  generalize hsc : PyData.list (ns.map .int) = sc
  unfold d_law
  walk_at "s"
  refine wB rfl (show lenP [sc] = some (.sh (.int (ns.length : Int))) by rw [← hsc, ← hlen]; rfl) ?_
  walk_at "s"
  refine for_inv (α := Nat) (enc := fun i => .int (0 + (i : Int))) (fun _ _ ρ => IvO sc ρ) ⟨none, none, none, none, none, none, none, none, none, none, none, none, none, rfl⟩ (fun pre k post ρ e h => ?_) fun ρ h => ?_
  · obtain ⟨x1, x2, x3, x4, x5, x6, x7, x8, x9, x10, x11, x12, x13, rfl⟩ := h
    have hk : k < 1000 := by
      have h1 : k ∈ pre ++ k :: post := by simp
      rw [e, List.mem_range] at h1
      omega
    refine ⟨_, rfl, ?_⟩
    rw [Int.zero_add]
    walk_at "s"
    obtain ⟨a, b, hv⟩ := vat_spec ns k hk
    rw [hsc] at hv
    refine WF.ok rfl hv rfl ?_
    walk_at "s"
    refine wfm_program rfl fun a1 b1 one hg => ?_
    obtain ⟨g1, g2, g3⟩ := good_parts hg
    have ok1 : ∀ l ∈ one, okL l := fun l hl => step_ok (g2 l hl)
    have sz1 : szL one ≤ 48 := by have := sz_good g2; omega
    walk_at "s"
    refine wif_join (v := .sh (strD (textL one))) (fun h => ?_) (fun h => ?_) ?_
    · have h : one ≠ [] := by simpa using h
      walk_at "s"
      refine wM rfl (joinP_t one (by omega)) ?_
      exact ⟨by unfold textL; rw [if_neg h], rfl⟩
    · have h : one = [] := by simpa using h
      walk_at "s"
      refine ⟨?_, rfl⟩
      rw [h]; exact congrArg DV.sh (congrArg PyData.str noth)
    have ht : Nice 48 (textL one) := ⟨text_ok hg, text_len hg⟩
    have tp : F_program_text [.tuple (one.map strD)] = some (.ok (.sh (strD (textL one)))) := by
      rw [program_text_spec one (fun l hl => by have := (step_len (g2 l hl)).1; omega) (by omega) ok1 (by omega), hg]; rfl
    have rp : F_read_program [strD (textL one)] = some (.ok (.sh (.tuple (one.map strD)))) := by
      rw [read_spec _ (by have := ht.2; omega), prog_text hg, hg]; rfl
    generalize hT : textL one = text at ht tp rp ⊢
    walk_at "s"
    refine for_inv (α := Nat) (enc := fun i => .int (0 + (i : Int))) (l := List.range 14) (fun _ _ ρ => ∃ a b x5 x6 x7 x8 x9 x10 x11 x12 x13, ρ = LS sc k a b one text x5 x6 x7 x8 x9 x10 x11 x12 x13) ⟨a1, b1, x5, x6, x7, x8, x9, x10, x11, x12, x13, rfl⟩ (fun pre i post ρ e h => ?_) fun ρ h => ?_
    · obtain ⟨a2, b2, y5, y6, y7, y8, y9, y10, y11, y12, y13, rfl⟩ := h
      refine ⟨_, rfl, ?_⟩
      exact (inner_ok (sc := sc) (k := k) (a := a2) (b := b2) (one := one) (x5 := some (.sh (.int (0 + (i : Int))))) (x6 := y6) (x7 := y7) (x8 := y8) (x9 := y9) (x10 := y10) (x11 := y11) (x12 := y12) (x13 := y13) ht).mono (fun o ρ ⟨e, h⟩ => by subst e; exact h) fun _ _ z => z
    · obtain ⟨a2, b2, y5, y6, y7, y8, y9, y10, y11, y12, y13, rfl⟩ := h
      walk_at "s"
      refine w2 rfl rfl (add_str (b := [32]) ht ⟨by unfold okL; decide, Nat.le_refl 1⟩ (by decide)) ?_
      walk_at "s"
      refine w2 rfl rfl (add_str (a := [32]) (n := 1) ⟨by unfold okL; decide, Nat.le_refl 1⟩ ht (by decide)) ?_
      walk_at "s"
      refine w2 rfl rfl (add_str (b := [10]) ht ⟨by unfold okL; decide, Nat.le_refl 1⟩ (by decide)) ?_
      walk_at "s"
      refine ford_eq (ds' := (oddL text).map id) (by kernel_rfl) ?_
      refine for_inv (α := PyData) (enc := id) (l := oddL text) (fun _ _ ρ => ∃ y, ρ = LS sc k a2 b2 one text y5 y6 y7 y8 y9 y10 y11 y12 y) ⟨y13, rfl⟩ (fun pre d post ρ e h => ?_) fun ρ h => ?_
      · obtain ⟨y, rfl⟩ := h
        have hd : d ∈ oddL text := by rw [← e]; simp
        refine ⟨_, rfl, ?_⟩
        walk_at "s"
        refine WF.exc rfl (odd_all ht.2 d hd) ⟨_, nmc_T, ?_⟩
        walk_at "s"
        exact ⟨_, rfl⟩
      · obtain ⟨y, rfl⟩ := h
        walk_at "s"
        refine WF.okN bad_list ?_
        walk_at "s"
        refine wFV (bad_refused f) ?_
        walk_at "s"
        exact ⟨_, _, _, _, _, _, _, _, _, _, _, _, _, rfl⟩
  · obtain ⟨x1, x2, x3, x4, x5, x6, x7, x8, x9, x10, x11, x12, x13, rfl⟩ := h
    walk_at "s"
    refine WF.okN known_val ?_
    walk_at "s"
end G
end

set_option Elab.async false
set_option linter.all false
set_option maxRecDepth 100000
set_option maxHeartbeats 2000000
namespace G
open PySem PySem.Spec PyProof.Rows L2 DL DH
open LamX (TabB)
/-- the tables of the text's defs are empty at the start -/
def TabAll (q : Program) (K : PySem.W.Frag) (h : Heap) : Prop := ∀ (x : Str) (c P : Addr), ((recsOf q).any fun e => e.name == x) = true → PySem.W.tabIn K x = some (c, P) → PySem.W.CodeHd h c P ∧ h.get? P = some { cls := .none, data := .fields #[] }
theorem walk_tabs {l : PySem.W.OpenLaw} {n k : Nat} {q : Program} {loose : List Str} {XP : (Str → Option Value) → Heap → Prop} {YP : World → Heap → Prop} {d : DefRec} {K : Params → PySem.W.Frag} {CX : World → CXT} {x : Str}
    (hn : l.most = some n) (hn2 : n ≤ sizeLine) (hdf : d.params.defaults = []) (hr : Room k callerA) (hY : ∀ (w : World) (h : Heap), YP w h → (K w.params).In h)
    (F : ∀ (w : World) (mg : Str → Option Value) (fa : Addr) (h : Heap), YP w h → (K w.params).In h → h.Ns mainGlobals mg → mg d.name = some (.ref fa) → TabAll q (K w.params) h → LamX.LawAtS l w (K w.params) (CX w) k n x mg fa h)
    (hCX : ∀ (w : World) (H : Hp) (s : Shared) (e : Value) (s' : Shared), CX w [] H s (fun _ _ _ => False) e s' → False) : PySem.W.WalkO q loose XP YP l.row.toRowW d [] (fun f vs => PySem.call f vs) :=
  Att.attach_callB hn hdf fun w s₀ s₁ mg mb fa o pm cd doc a vs ns G Y ho hd hcd hmg hobj hints hlen hbits hg => by
    have KX := hY w _ Y
    have tabs : TabAll q (K w.params) s₁.heap := fun x c P hx ht => by
      cases e : (recsOf q).find? (fun e => e.name == x) with
      | none =>
        rw [List.find?_eq_none] at e
        obtain ⟨y, hy, hxy⟩ := List.any_eq_true.mp hx
        exact absurd hxy (e y hy)
      | some d' => exact PySem.W.tab_of G.T KX e ht
    obtain ⟨fd, cs, sp, hT, nT, C, hb, hsp, hF⟩ := F w mg fa _ Y KX G.T.g hmg tabs
    exact LamX.law_callTs KX G.T.g G.T.b G.T.builtins G.T.nolimit hg hT nT C G.T.bmain hobj hints (Nat.le_trans hlen hn2) hr hF hb (fun H hH hS => hsp H a ns hlen hbits hH hS) fun H e s' => hCX w H s₁ e s'
theorem rds_ints {K : PySem.W.Frag} {G : Hp} : ∀ ns : List Int, RDs K G (ns.map V.int) (ns.map PyData.int)
  | [] => .nil
  | n :: ns => .cons (.int n) (rds_ints ns)
theorem law_sp [Tbl] {K : PySem.W.Frag} {cv : Str → Value} {F : List PyData → Option FR} {H : Hp} {a : Addr} {ns : List Int} (hF : F [.list (ns.map .int)] = some (.ok (.sh (.bool true)))) (hT : ∀ p ∈ Tbl.T, H p.1 = some (.tbl #[])) (hS : SqL K H a (ns.map V.int)) :
    spD K cv F [.ref a] H (fun v _ => v = .bl true) fun _ _ _ => False := by
  have tab : TabsOk Tbl.T H := ⟨rfl, fun p hp => NdefX.TabN.nil (hT p hp)⟩
  have fin : ∀ G : Hp, GE G H → (∀ b o, G b = some o → isTbl o = false) → SqL K G a (ns.map V.int) → spD K cv F [.ref a] H (fun v _ => v = .bl true) fun _ _ _ => False := fun G g1 g2 g3 => by
    refine ⟨G, Tbl.T, [.list (ns.map .int)], g1, g2, tab, .one (.lst g3 (rds_ints ns)), ?_⟩
    rw [hF]
    intro v H' G' _ _ _ _ _ _ res
    have res : RD K G' v (.bool true) := res
    cases res
    rfl
  rcases hS with (z | ⟨o, z⟩) | z
  · exact fin (fun b => if b = a then some (.lst (ns.map V.int)) else none) (fun b o h => by
      dsimp only at h
      by_cases hb : b = a
      · rw [if_pos hb] at h; cases h; rw [hb]; exact z
      · rw [if_neg hb] at h; cases h) (fun b o h => by
      by_cases hb : b = a
      · rw [if_pos hb] at h; cases h; rfl
      · rw [if_neg hb] at h; cases h) (.inl (.inl (if_pos rfl)))
  · exact fin (fun b => if b = a then some (.frz o (.lst (ns.map V.int))) else none) (fun b o h => by
      dsimp only at h
      by_cases hb : b = a
      · rw [if_pos hb] at h; cases h; rw [hb]; exact z
      · rw [if_neg hb] at h; cases h) (fun b o h => by
      by_cases hb : b = a
      · rw [if_pos hb] at h; cases h; rfl
      · rw [if_neg hb] at h; cases h) (.inl (.inr ⟨o, if_pos rfl⟩))
  · exact fin (fun _ => none) (fun _ _ h => nomatch h) (fun _ _ h => nomatch h) (.inr z)
section
theorem all_mk {q : Program} {w : World} {K : PySem.W.Frag} {h : Heap} {mg : Str → Option Value} {fa : Addr} (X : K.In h) (G : h.Ns mainGlobals mg) (hfa : mg "law" = some (.ref fa)) {f_is_step : Addr} {od_is_step an_is_step : Option Addr} {sl_is_step : Array (Option Value)} {oc_is_step kV_is_step dc_is_step pm_is_step cd_is_step ct_is_step : Value} {f_is_good : Addr} {od_is_good an_is_good : Option Addr} {sl_is_good : Array (Option Value)} {oc_is_good kV_is_good dc_is_good pm_is_good cd_is_good ct_is_good : Value} {f_need_program : Addr} {od_need_program an_need_program : Option Addr} {sl_need_program : Array (Option Value)} {oc_need_program kV_need_program dc_need_program pm_need_program cd_need_program ct_need_program : Value} {f_text_of : Addr} {od_text_of an_text_of : Option Addr} {sl_text_of : Array (Option Value)} {oc_text_of kV_text_of dc_text_of pm_text_of cd_text_of ct_text_of : Value} {f_program_in : Addr} {od_program_in an_program_in : Option Addr} {sl_program_in : Array (Option Value)} {oc_program_in kV_program_in dc_program_in pm_program_in cd_program_in ct_program_in : Value} {f_program_text : Addr} {od_program_text an_program_text : Option Addr} {sl_program_text : Array (Option Value)} {oc_program_text kV_program_text dc_program_text pm_program_text cd_program_text ct_program_text : Value} {f_read_program : Addr} {od_read_program an_read_program : Option Addr} {sl_read_program : Array (Option Value)} {oc_read_program kV_read_program dc_read_program pm_read_program cd_read_program ct_read_program : Value} {f_law_vat : Addr} {od_law_vat an_law_vat : Option Addr} {sl_law_vat : Array (Option Value)} {oc_law_vat kV_law_vat dc_law_vat pm_law_vat cd_law_vat ct_law_vat : Value} {f_law_under : Addr} {od_law_under an_law_under : Option Addr} {sl_law_under : Array (Option Value)} {oc_law_under kV_law_under dc_law_under pm_law_under cd_law_under ct_law_under : Value} {f_law_some : Addr} {od_law_some an_law_some : Option Addr} {sl_law_some : Array (Option Value)} {oc_law_some kV_law_some dc_law_some pm_law_some cd_law_some ct_law_some : Value} {f_law_is_step : Addr} {od_law_is_step an_law_is_step : Option Addr} {sl_law_is_step : Array (Option Value)} {oc_law_is_step kV_law_is_step dc_law_is_step pm_law_is_step cd_law_is_step ct_law_is_step : Value} {f_law_is_program : Addr} {od_law_is_program an_law_is_program : Option Addr} {sl_law_is_program : Array (Option Value)} {oc_law_is_program kV_law_is_program dc_law_is_program pm_law_is_program cd_law_is_program ct_law_is_program : Value} {f_law_program : Addr} {od_law_program an_law_program : Option Addr} {sl_law_program : Array (Option Value)} {oc_law_program kV_law_program dc_law_program pm_law_program cd_law_program ct_law_program : Value} {f_law_known : Addr} {od_law_known an_law_known : Option Addr} {sl_law_known : Array (Option Value)} {oc_law_known kV_law_known dc_law_known pm_law_known cd_law_known ct_law_known : Value} {f_law_bad_programs : Addr} {od_law_bad_programs an_law_bad_programs : Option Addr} {sl_law_bad_programs : Array (Option Value)} {oc_law_bad_programs kV_law_bad_programs dc_law_bad_programs pm_law_bad_programs cd_law_bad_programs ct_law_bad_programs : Value} {f_law_all_refused c_law_all_refused P_law_all_refused : Addr} {od_law_all_refused an_law_all_refused : Option Addr} {sl_law_all_refused : Array (Option Value)} {oc_law_all_refused kV_law_all_refused dc_law_all_refused pm_law_all_refused ct_law_all_refused : Value} {f_law c_law P_law : Addr} {od_law an_law : Option Addr} {sl_law : Array (Option Value)} {oc_law kV_law dc_law pm_law ct_law : Value} {f_law_names : Addr} {od_law_names an_law_names : Option Addr} {sl_law_names : Array (Option Value)} {oc_law_names kV_law_names dc_law_names pm_law_names cd_law_names ct_law_names : Value} {f_law_error : Addr} {od_law_error an_law_error : Option Addr} {sl_law_error : Array (Option Value)} {oc_law_error kV_law_error dc_law_error pm_law_error cd_law_error ct_law_error : Value} {f_law_told : Addr} {od_law_told an_law_told : Option Addr} {sl_law_told : Array (Option Value)} {oc_law_told kV_law_told dc_law_told pm_law_told cd_law_told ct_law_told : Value} {t_THINGS : Tok} {t_LONGEST : Tok} {t_EMPTY : Tok} {E_GrownError : Addr} {E_InvalidProgram : Addr} {E_InvalidStanding : Addr} {E_InvalidWeaving : Addr} {E_InvalidNumber : Addr} {E_InvalidPaper : Addr} {E_InvalidMove : Addr} {E_InvalidPair : Addr} {E_InvalidThing : Addr} {E_InvalidBeginning : Addr} {E_InvalidText : Addr} {E_Ended : Addr} {E_Blocked : Addr} {E_Unlike : Addr} {E_NothingToUndo : Addr} {E_TooMany : Addr}
    (a_is_step : PySem.W.nsIn K mainGlobals "is_step" = some (some (.ref f_is_step)))
    (l_is_step : K.lookup f_is_step = some ⟨oc_is_step, od_is_step, .func (PySem.W.fnOf "is_step" "is_step" (defArgs s_is_step) (defBody s_is_step) (defScope s_is_step) .none kV_is_step dc_is_step pm_is_step an_is_step cd_is_step ct_is_step), sl_is_step⟩)
    (c_is_stepq : PySem.W.codeIn K cd_is_step "is_step" = true)
    (k_is_step : PySem.W.keepIn K (.ref f_is_step) = true)
    (a_is_good : PySem.W.nsIn K mainGlobals "is_good" = some (some (.ref f_is_good)))
    (l_is_good : K.lookup f_is_good = some ⟨oc_is_good, od_is_good, .func (PySem.W.fnOf "is_good" "is_good" (defArgs s_is_good) (defBody s_is_good) (defScope s_is_good) .none kV_is_good dc_is_good pm_is_good an_is_good cd_is_good ct_is_good), sl_is_good⟩)
    (c_is_goodq : PySem.W.codeIn K cd_is_good "is_good" = true)
    (k_is_good : PySem.W.keepIn K (.ref f_is_good) = true)
    (a_need_program : PySem.W.nsIn K mainGlobals "need_program" = some (some (.ref f_need_program)))
    (l_need_program : K.lookup f_need_program = some ⟨oc_need_program, od_need_program, .func (PySem.W.fnOf "need_program" "need_program" (defArgs s_need_program) (defBody s_need_program) (defScope s_need_program) .none kV_need_program dc_need_program pm_need_program an_need_program cd_need_program ct_need_program), sl_need_program⟩)
    (c_need_programq : PySem.W.codeIn K cd_need_program "need_program" = true)
    (k_need_program : PySem.W.keepIn K (.ref f_need_program) = true)
    (a_text_of : PySem.W.nsIn K mainGlobals "text_of" = some (some (.ref f_text_of)))
    (l_text_of : K.lookup f_text_of = some ⟨oc_text_of, od_text_of, .func (PySem.W.fnOf "text_of" "text_of" (defArgs s_text_of) (defBody s_text_of) (defScope s_text_of) .none kV_text_of dc_text_of pm_text_of an_text_of cd_text_of ct_text_of), sl_text_of⟩)
    (c_text_ofq : PySem.W.codeIn K cd_text_of "text_of" = true)
    (k_text_of : PySem.W.keepIn K (.ref f_text_of) = true)
    (a_program_in : PySem.W.nsIn K mainGlobals "program_in" = some (some (.ref f_program_in)))
    (l_program_in : K.lookup f_program_in = some ⟨oc_program_in, od_program_in, .func (PySem.W.fnOf "program_in" "program_in" (defArgs s_program_in) (defBody s_program_in) (defScope s_program_in) .none kV_program_in dc_program_in pm_program_in an_program_in cd_program_in ct_program_in), sl_program_in⟩)
    (c_program_inq : PySem.W.codeIn K cd_program_in "program_in" = true)
    (k_program_in : PySem.W.keepIn K (.ref f_program_in) = true)
    (a_program_text : PySem.W.nsIn K mainGlobals "program_text" = some (some (.ref f_program_text)))
    (l_program_text : K.lookup f_program_text = some ⟨oc_program_text, od_program_text, .func (PySem.W.fnOf "program_text" "program_text" (defArgs s_program_text) (defBody s_program_text) (defScope s_program_text) .none kV_program_text dc_program_text pm_program_text an_program_text cd_program_text ct_program_text), sl_program_text⟩)
    (c_program_textq : PySem.W.codeIn K cd_program_text "program_text" = true)
    (k_program_text : PySem.W.keepIn K (.ref f_program_text) = true)
    (a_read_program : PySem.W.nsIn K mainGlobals "read_program" = some (some (.ref f_read_program)))
    (l_read_program : K.lookup f_read_program = some ⟨oc_read_program, od_read_program, .func (PySem.W.fnOf "read_program" "read_program" (defArgs s_read_program) (defBody s_read_program) (defScope s_read_program) .none kV_read_program dc_read_program pm_read_program an_read_program cd_read_program ct_read_program), sl_read_program⟩)
    (c_read_programq : PySem.W.codeIn K cd_read_program "read_program" = true)
    (k_read_program : PySem.W.keepIn K (.ref f_read_program) = true)
    (a_law_vat : PySem.W.nsIn K mainGlobals "_law_vat" = some (some (.ref f_law_vat)))
    (l_law_vat : K.lookup f_law_vat = some ⟨oc_law_vat, od_law_vat, .func (PySem.W.fnOf "_law_vat" "_law_vat" (defArgs s_law_vat) (defBody s_law_vat) (defScope s_law_vat) .none kV_law_vat dc_law_vat pm_law_vat an_law_vat cd_law_vat ct_law_vat), sl_law_vat⟩)
    (c_law_vatq : PySem.W.codeIn K cd_law_vat "_law_vat" = true)
    (k_law_vat : PySem.W.keepIn K (.ref f_law_vat) = true)
    (a_law_under : PySem.W.nsIn K mainGlobals "_law_under" = some (some (.ref f_law_under)))
    (l_law_under : K.lookup f_law_under = some ⟨oc_law_under, od_law_under, .func (PySem.W.fnOf "_law_under" "_law_under" (defArgs s_law_under) (defBody s_law_under) (defScope s_law_under) .none kV_law_under dc_law_under pm_law_under an_law_under cd_law_under ct_law_under), sl_law_under⟩)
    (c_law_underq : PySem.W.codeIn K cd_law_under "_law_under" = true)
    (k_law_under : PySem.W.keepIn K (.ref f_law_under) = true)
    (a_law_some : PySem.W.nsIn K mainGlobals "_law_some" = some (some (.ref f_law_some)))
    (l_law_some : K.lookup f_law_some = some ⟨oc_law_some, od_law_some, .func (PySem.W.fnOf "_law_some" "_law_some" (defArgs s_law_some) (defBody s_law_some) (defScope s_law_some) .none kV_law_some dc_law_some pm_law_some an_law_some cd_law_some ct_law_some), sl_law_some⟩)
    (c_law_someq : PySem.W.codeIn K cd_law_some "_law_some" = true)
    (k_law_some : PySem.W.keepIn K (.ref f_law_some) = true)
    (a_law_is_step : PySem.W.nsIn K mainGlobals "_law_is_step" = some (some (.ref f_law_is_step)))
    (l_law_is_step : K.lookup f_law_is_step = some ⟨oc_law_is_step, od_law_is_step, .func (PySem.W.fnOf "_law_is_step" "_law_is_step" (defArgs s_law_is_step) (defBody s_law_is_step) (defScope s_law_is_step) .none kV_law_is_step dc_law_is_step pm_law_is_step an_law_is_step cd_law_is_step ct_law_is_step), sl_law_is_step⟩)
    (c_law_is_stepq : PySem.W.codeIn K cd_law_is_step "_law_is_step" = true)
    (k_law_is_step : PySem.W.keepIn K (.ref f_law_is_step) = true)
    (a_law_is_program : PySem.W.nsIn K mainGlobals "_law_is_program" = some (some (.ref f_law_is_program)))
    (l_law_is_program : K.lookup f_law_is_program = some ⟨oc_law_is_program, od_law_is_program, .func (PySem.W.fnOf "_law_is_program" "_law_is_program" (defArgs s_law_is_program) (defBody s_law_is_program) (defScope s_law_is_program) .none kV_law_is_program dc_law_is_program pm_law_is_program an_law_is_program cd_law_is_program ct_law_is_program), sl_law_is_program⟩)
    (c_law_is_programq : PySem.W.codeIn K cd_law_is_program "_law_is_program" = true)
    (k_law_is_program : PySem.W.keepIn K (.ref f_law_is_program) = true)
    (a_law_program : PySem.W.nsIn K mainGlobals "_law_program" = some (some (.ref f_law_program)))
    (l_law_program : K.lookup f_law_program = some ⟨oc_law_program, od_law_program, .func (PySem.W.fnOf "_law_program" "_law_program" (defArgs s_law_program) (defBody s_law_program) (defScope s_law_program) .none kV_law_program dc_law_program pm_law_program an_law_program cd_law_program ct_law_program), sl_law_program⟩)
    (c_law_programq : PySem.W.codeIn K cd_law_program "_law_program" = true)
    (k_law_program : PySem.W.keepIn K (.ref f_law_program) = true)
    (a_law_known : PySem.W.nsIn K mainGlobals "_law_known" = some (some (.ref f_law_known)))
    (l_law_known : K.lookup f_law_known = some ⟨oc_law_known, od_law_known, .func (PySem.W.fnOf "_law_known" "_law_known" (defArgs s_law_known) (defBody s_law_known) (defScope s_law_known) .none kV_law_known dc_law_known pm_law_known an_law_known cd_law_known ct_law_known), sl_law_known⟩)
    (c_law_knownq : PySem.W.codeIn K cd_law_known "_law_known" = true)
    (k_law_known : PySem.W.keepIn K (.ref f_law_known) = true)
    (a_law_bad_programs : PySem.W.nsIn K mainGlobals "_law_bad_programs" = some (some (.ref f_law_bad_programs)))
    (l_law_bad_programs : K.lookup f_law_bad_programs = some ⟨oc_law_bad_programs, od_law_bad_programs, .func (PySem.W.fnOf "_law_bad_programs" "_law_bad_programs" (defArgs s_law_bad_programs) (defBody s_law_bad_programs) (defScope s_law_bad_programs) .none kV_law_bad_programs dc_law_bad_programs pm_law_bad_programs an_law_bad_programs cd_law_bad_programs ct_law_bad_programs), sl_law_bad_programs⟩)
    (c_law_bad_programsq : PySem.W.codeIn K cd_law_bad_programs "_law_bad_programs" = true)
    (k_law_bad_programs : PySem.W.keepIn K (.ref f_law_bad_programs) = true)
    (a_law_all_refused : PySem.W.nsIn K mainGlobals "_law_all_refused" = some (some (.ref f_law_all_refused)))
    (l_law_all_refused : K.lookup f_law_all_refused = some ⟨oc_law_all_refused, od_law_all_refused, .func (PySem.W.fnOf "_law_all_refused" "_law_all_refused" (defArgs s_law_all_refused) (defBody s_law_all_refused) (defScope s_law_all_refused) .none kV_law_all_refused dc_law_all_refused pm_law_all_refused an_law_all_refused (.ref c_law_all_refused) ct_law_all_refused), sl_law_all_refused⟩)
    (c_law_all_refusedq : PySem.W.codeIn K (.ref c_law_all_refused) "_law_all_refused" = true)
    (k_law_all_refused : PySem.W.keepIn K (.ref f_law_all_refused) = true)
    (t_law_all_refused : PySem.W.tabIn K "_law_all_refused" = some (c_law_all_refused, P_law_all_refused))
    (n_law_all_refused : K.lookup P_law_all_refused = none)
    (a_law : PySem.W.nsIn K mainGlobals "law" = some (some (.ref f_law)))
    (l_law : K.lookup f_law = some ⟨oc_law, od_law, .func (PySem.W.fnOf "law" "law" (defArgs s_law) (defBody s_law) (defScope s_law) .none kV_law dc_law pm_law an_law (.ref c_law) ct_law), sl_law⟩)
    (c_lawq : PySem.W.codeIn K (.ref c_law) "law" = true)
    (k_law : PySem.W.keepIn K (.ref f_law) = true)
    (t_law : PySem.W.tabIn K "law" = some (c_law, P_law))
    (n_law : K.lookup P_law = none)
    (a_law_names : PySem.W.nsIn K mainGlobals "_law_names" = some (some (.ref f_law_names)))
    (l_law_names : K.lookup f_law_names = some ⟨oc_law_names, od_law_names, .func (PySem.W.fnOf "_law_names" "_law_names" (defArgs s_law_names) (defBody s_law_names) (defScope s_law_names) .none kV_law_names dc_law_names pm_law_names an_law_names cd_law_names ct_law_names), sl_law_names⟩)
    (c_law_namesq : PySem.W.codeIn K cd_law_names "_law_names" = true)
    (k_law_names : PySem.W.keepIn K (.ref f_law_names) = true)
    (a_law_error : PySem.W.nsIn K mainGlobals "_law_error" = some (some (.ref f_law_error)))
    (l_law_error : K.lookup f_law_error = some ⟨oc_law_error, od_law_error, .func (PySem.W.fnOf "_law_error" "_law_error" (defArgs s_law_error) (defBody s_law_error) (defScope s_law_error) .none kV_law_error dc_law_error pm_law_error an_law_error cd_law_error ct_law_error), sl_law_error⟩)
    (c_law_errorq : PySem.W.codeIn K cd_law_error "_law_error" = true)
    (k_law_error : PySem.W.keepIn K (.ref f_law_error) = true)
    (a_law_told : PySem.W.nsIn K mainGlobals "_law_told" = some (some (.ref f_law_told)))
    (l_law_told : K.lookup f_law_told = some ⟨oc_law_told, od_law_told, .func (PySem.W.fnOf "_law_told" "_law_told" (defArgs s_law_told) (defBody s_law_told) (defScope s_law_told) .none kV_law_told dc_law_told pm_law_told an_law_told cd_law_told ct_law_told), sl_law_told⟩)
    (c_law_toldq : PySem.W.codeIn K cd_law_told "_law_told" = true)
    (k_law_told : PySem.W.keepIn K (.ref f_law_told) = true)
    (z_len : PySem.W.nsIn K mainGlobals "len" = some none)
    (z_abs : PySem.W.nsIn K mainGlobals "abs" = some none)
    (z_max : PySem.W.nsIn K mainGlobals "max" = some none)
    (z_min : PySem.W.nsIn K mainGlobals "min" = some none)
    (z_all : PySem.W.nsIn K mainGlobals "all" = some none)
    (z_any : PySem.W.nsIn K mainGlobals "any" = some none)
    (z_isinstance : PySem.W.nsIn K mainGlobals "isinstance" = some none)
    (z_range : PySem.W.nsIn K mainGlobals "range" = some none)
    (z_int : PySem.W.nsIn K mainGlobals "int" = some none)
    (z_str : PySem.W.nsIn K mainGlobals "str" = some none)
    (z_tuple : PySem.W.nsIn K mainGlobals "tuple" = some none)
    (z_list : PySem.W.nsIn K mainGlobals "list" = some none)
    (z_zip : PySem.W.nsIn K mainGlobals "zip" = some none)
    (g_THINGS : PySem.W.nsIn K mainGlobals "THINGS" = some (some (.str "abcdef" t_THINGS)))
    (g_LONGEST : PySem.W.nsIn K mainGlobals "LONGEST" = some (some (.int 16 t_LONGEST)))
    (g_EMPTY : PySem.W.nsIn K mainGlobals "EMPTY" = some (some (.str "nothing" t_EMPTY)))
    (e_GrownError : PySem.W.nsIn K mainGlobals "GrownError" = some (some (.ref E_GrownError)))
    (e_InvalidProgram : PySem.W.nsIn K mainGlobals "InvalidProgram" = some (some (.ref E_InvalidProgram)))
    (e_InvalidStanding : PySem.W.nsIn K mainGlobals "InvalidStanding" = some (some (.ref E_InvalidStanding)))
    (e_InvalidWeaving : PySem.W.nsIn K mainGlobals "InvalidWeaving" = some (some (.ref E_InvalidWeaving)))
    (e_InvalidNumber : PySem.W.nsIn K mainGlobals "InvalidNumber" = some (some (.ref E_InvalidNumber)))
    (e_InvalidPaper : PySem.W.nsIn K mainGlobals "InvalidPaper" = some (some (.ref E_InvalidPaper)))
    (e_InvalidMove : PySem.W.nsIn K mainGlobals "InvalidMove" = some (some (.ref E_InvalidMove)))
    (e_InvalidPair : PySem.W.nsIn K mainGlobals "InvalidPair" = some (some (.ref E_InvalidPair)))
    (e_InvalidThing : PySem.W.nsIn K mainGlobals "InvalidThing" = some (some (.ref E_InvalidThing)))
    (e_InvalidBeginning : PySem.W.nsIn K mainGlobals "InvalidBeginning" = some (some (.ref E_InvalidBeginning)))
    (e_InvalidText : PySem.W.nsIn K mainGlobals "InvalidText" = some (some (.ref E_InvalidText)))
    (e_Ended : PySem.W.nsIn K mainGlobals "Ended" = some (some (.ref E_Ended)))
    (e_Blocked : PySem.W.nsIn K mainGlobals "Blocked" = some (some (.ref E_Blocked)))
    (e_Unlike : PySem.W.nsIn K mainGlobals "Unlike" = some (some (.ref E_Unlike)))
    (e_NothingToUndo : PySem.W.nsIn K mainGlobals "NothingToUndo" = some (some (.ref E_NothingToUndo)))
    (e_TooMany : PySem.W.nsIn K mainGlobals "TooMany" = some (some (.ref E_TooMany)))
    (z_ValueError : PySem.W.nsIn K mainGlobals "ValueError" = some none)
    (r1_InvalidProgram : PySem.W.keepIn K (.ref E_InvalidProgram) = true)
    (r2_InvalidProgram : PySem.W.excIn K E_InvalidProgram [.type "ValueError", .type "Exception", .type "BaseException", .type "object"] "ValueError.__new__" = true)
    (r3_InvalidProgram : PySem.W.subIn K (.ref E_InvalidProgram) (.type "BaseException") = some true)
    (r4_InvalidProgram : PySem.W.typeIn K (.ref E_InvalidProgram) = some (.type "type"))
    (r5_InvalidProgram : PySem.W.findIn K (.ref E_InvalidProgram) "__getattribute__" = some (some (.builtin "BaseException.__getattribute__")))
    (r6_InvalidProgram : PySem.W.findIn K (.ref E_InvalidProgram) "__getattr__" = some none)
    (r7_InvalidProgram : PySem.W.hasDictIn K E_InvalidProgram = true)
    (r8_InvalidProgram : PySem.W.findIn K (.ref E_InvalidProgram) "__class__" = some (some (.builtin "object.__class__")))
    (r9_InvalidProgram : PySem.W.mroIn K E_InvalidProgram (.type "object") = some true)
    (ra_InvalidProgram : PySem.W.exmOne K (.ref E_InvalidProgram) (.ref E_GrownError) = some true)
    (q0_InvalidProgram : PySem.W.kitOne K (.ref E_InvalidProgram) (.ref E_InvalidProgram) = some true)
    (q1_InvalidProgram : PySem.W.kitOne K (.ref E_InvalidProgram) (.ref E_InvalidStanding) = some false)
    (q2_InvalidProgram : PySem.W.kitOne K (.ref E_InvalidProgram) (.ref E_InvalidWeaving) = some false)
    (q3_InvalidProgram : PySem.W.kitOne K (.ref E_InvalidProgram) (.ref E_InvalidNumber) = some false)
    (q4_InvalidProgram : PySem.W.kitOne K (.ref E_InvalidProgram) (.ref E_InvalidPaper) = some false)
    (q5_InvalidProgram : PySem.W.kitOne K (.ref E_InvalidProgram) (.ref E_InvalidMove) = some false)
    (q6_InvalidProgram : PySem.W.kitOne K (.ref E_InvalidProgram) (.ref E_InvalidPair) = some false)
    (q7_InvalidProgram : PySem.W.kitOne K (.ref E_InvalidProgram) (.ref E_InvalidThing) = some false)
    (q8_InvalidProgram : PySem.W.kitOne K (.ref E_InvalidProgram) (.ref E_InvalidBeginning) = some false)
    (q9_InvalidProgram : PySem.W.kitOne K (.ref E_InvalidProgram) (.ref E_InvalidText) = some false)
    (q10_InvalidProgram : PySem.W.kitOne K (.ref E_InvalidProgram) (.ref E_Ended) = some false)
    (q11_InvalidProgram : PySem.W.kitOne K (.ref E_InvalidProgram) (.ref E_Blocked) = some false)
    (q12_InvalidProgram : PySem.W.kitOne K (.ref E_InvalidProgram) (.ref E_Unlike) = some false)
    (q13_InvalidProgram : PySem.W.kitOne K (.ref E_InvalidProgram) (.ref E_NothingToUndo) = some false)
    (q14_InvalidProgram : PySem.W.kitOne K (.ref E_InvalidProgram) (.ref E_TooMany) = some false)
    (q15_InvalidProgram : PySem.W.kitOne K (.ref E_InvalidProgram) (.type "ValueError") = some true)
    (r1_InvalidText : PySem.W.keepIn K (.ref E_InvalidText) = true)
    (r2_InvalidText : PySem.W.excIn K E_InvalidText [.type "ValueError", .type "Exception", .type "BaseException", .type "object"] "ValueError.__new__" = true)
    (r3_InvalidText : PySem.W.subIn K (.ref E_InvalidText) (.type "BaseException") = some true)
    (r4_InvalidText : PySem.W.typeIn K (.ref E_InvalidText) = some (.type "type"))
    (r5_InvalidText : PySem.W.findIn K (.ref E_InvalidText) "__getattribute__" = some (some (.builtin "BaseException.__getattribute__")))
    (r6_InvalidText : PySem.W.findIn K (.ref E_InvalidText) "__getattr__" = some none)
    (r7_InvalidText : PySem.W.hasDictIn K E_InvalidText = true)
    (r8_InvalidText : PySem.W.findIn K (.ref E_InvalidText) "__class__" = some (some (.builtin "object.__class__")))
    (r9_InvalidText : PySem.W.mroIn K E_InvalidText (.type "object") = some true)
    (ra_InvalidText : PySem.W.exmOne K (.ref E_InvalidText) (.ref E_GrownError) = some true)
    (q0_InvalidText : PySem.W.kitOne K (.ref E_InvalidText) (.ref E_InvalidProgram) = some false)
    (q1_InvalidText : PySem.W.kitOne K (.ref E_InvalidText) (.ref E_InvalidStanding) = some false)
    (q2_InvalidText : PySem.W.kitOne K (.ref E_InvalidText) (.ref E_InvalidWeaving) = some false)
    (q3_InvalidText : PySem.W.kitOne K (.ref E_InvalidText) (.ref E_InvalidNumber) = some false)
    (q4_InvalidText : PySem.W.kitOne K (.ref E_InvalidText) (.ref E_InvalidPaper) = some false)
    (q5_InvalidText : PySem.W.kitOne K (.ref E_InvalidText) (.ref E_InvalidMove) = some false)
    (q6_InvalidText : PySem.W.kitOne K (.ref E_InvalidText) (.ref E_InvalidPair) = some false)
    (q7_InvalidText : PySem.W.kitOne K (.ref E_InvalidText) (.ref E_InvalidThing) = some false)
    (q8_InvalidText : PySem.W.kitOne K (.ref E_InvalidText) (.ref E_InvalidBeginning) = some false)
    (q9_InvalidText : PySem.W.kitOne K (.ref E_InvalidText) (.ref E_InvalidText) = some true)
    (q10_InvalidText : PySem.W.kitOne K (.ref E_InvalidText) (.ref E_Ended) = some false)
    (q11_InvalidText : PySem.W.kitOne K (.ref E_InvalidText) (.ref E_Blocked) = some false)
    (q12_InvalidText : PySem.W.kitOne K (.ref E_InvalidText) (.ref E_Unlike) = some false)
    (q13_InvalidText : PySem.W.kitOne K (.ref E_InvalidText) (.ref E_NothingToUndo) = some false)
    (q14_InvalidText : PySem.W.kitOne K (.ref E_InvalidText) (.ref E_TooMany) = some false)
    (q15_InvalidText : PySem.W.kitOne K (.ref E_InvalidText) (.type "ValueError") = some true)
    (y1 : PySem.W.specialIn K (.builtin "object.__class__") "__get__" = some (some (.builtin "getset_descriptor.__get__")))
    (y2 : PySem.W.takesIn K (.builtin "object.__class__") = some true)
    (d1_0 : P_law ≠ P_law_all_refused)
    (htab : TabAll q K h) (hrec : ((recsOf q).any fun e => e.name == ("_law_all_refused" : Str)) = true ∧ ((recsOf q).any fun e => e.name == ("law" : Str)) = true) :
    LamX.LawAtS PySem.Challenge.rw_grownblocks_k10_texts w K (L2N.CX PySem.Challenge.rw_grownblocks_k10_texts.prog w) 10 63 "script" mg fa h := by
  have e := hfa.symm.trans (PySem.W.mg_of X G a_law)
  have e2 : f_law = fa := by cases e; rfl
  subst e2
  have F_is_step_ := fun_mk (st := s_is_step) l_is_step c_is_stepq k_is_step
  have D_is_step : DefAt K mg ("is_step" : Str) s_is_step f_is_step := ⟨⟨_, F_is_step_⟩, PySem.W.mg_of X G a_is_step⟩
  have F_is_good_ := fun_mk (st := s_is_good) l_is_good c_is_goodq k_is_good
  have D_is_good : DefAt K mg ("is_good" : Str) s_is_good f_is_good := ⟨⟨_, F_is_good_⟩, PySem.W.mg_of X G a_is_good⟩
  have F_need_program_ := fun_mk (st := s_need_program) l_need_program c_need_programq k_need_program
  have D_need_program : DefAt K mg ("need_program" : Str) s_need_program f_need_program := ⟨⟨_, F_need_program_⟩, PySem.W.mg_of X G a_need_program⟩
  have F_text_of_ := fun_mk (st := s_text_of) l_text_of c_text_ofq k_text_of
  have D_text_of : DefAt K mg ("text_of" : Str) s_text_of f_text_of := ⟨⟨_, F_text_of_⟩, PySem.W.mg_of X G a_text_of⟩
  have F_program_in_ := fun_mk (st := s_program_in) l_program_in c_program_inq k_program_in
  have D_program_in : DefAt K mg ("program_in" : Str) s_program_in f_program_in := ⟨⟨_, F_program_in_⟩, PySem.W.mg_of X G a_program_in⟩
  have F_program_text_ := fun_mk (st := s_program_text) l_program_text c_program_textq k_program_text
  have D_program_text : DefAt K mg ("program_text" : Str) s_program_text f_program_text := ⟨⟨_, F_program_text_⟩, PySem.W.mg_of X G a_program_text⟩
  have F_read_program_ := fun_mk (st := s_read_program) l_read_program c_read_programq k_read_program
  have D_read_program : DefAt K mg ("read_program" : Str) s_read_program f_read_program := ⟨⟨_, F_read_program_⟩, PySem.W.mg_of X G a_read_program⟩
  have F_law_vat_ := fun_mk (st := s_law_vat) l_law_vat c_law_vatq k_law_vat
  have D_law_vat : DefAt K mg ("_law_vat" : Str) s_law_vat f_law_vat := ⟨⟨_, F_law_vat_⟩, PySem.W.mg_of X G a_law_vat⟩
  have F_law_under_ := fun_mk (st := s_law_under) l_law_under c_law_underq k_law_under
  have D_law_under : DefAt K mg ("_law_under" : Str) s_law_under f_law_under := ⟨⟨_, F_law_under_⟩, PySem.W.mg_of X G a_law_under⟩
  have F_law_some_ := fun_mk (st := s_law_some) l_law_some c_law_someq k_law_some
  have D_law_some : DefAt K mg ("_law_some" : Str) s_law_some f_law_some := ⟨⟨_, F_law_some_⟩, PySem.W.mg_of X G a_law_some⟩
  have F_law_is_step_ := fun_mk (st := s_law_is_step) l_law_is_step c_law_is_stepq k_law_is_step
  have D_law_is_step : DefAt K mg ("_law_is_step" : Str) s_law_is_step f_law_is_step := ⟨⟨_, F_law_is_step_⟩, PySem.W.mg_of X G a_law_is_step⟩
  have F_law_is_program_ := fun_mk (st := s_law_is_program) l_law_is_program c_law_is_programq k_law_is_program
  have D_law_is_program : DefAt K mg ("_law_is_program" : Str) s_law_is_program f_law_is_program := ⟨⟨_, F_law_is_program_⟩, PySem.W.mg_of X G a_law_is_program⟩
  have F_law_program_ := fun_mk (st := s_law_program) l_law_program c_law_programq k_law_program
  have D_law_program : DefAt K mg ("_law_program" : Str) s_law_program f_law_program := ⟨⟨_, F_law_program_⟩, PySem.W.mg_of X G a_law_program⟩
  have F_law_known_ := fun_mk (st := s_law_known) l_law_known c_law_knownq k_law_known
  have D_law_known : DefAt K mg ("_law_known" : Str) s_law_known f_law_known := ⟨⟨_, F_law_known_⟩, PySem.W.mg_of X G a_law_known⟩
  have F_law_bad_programs_ := fun_mk (st := s_law_bad_programs) l_law_bad_programs c_law_bad_programsq k_law_bad_programs
  have D_law_bad_programs : DefAt K mg ("_law_bad_programs" : Str) s_law_bad_programs f_law_bad_programs := ⟨⟨_, F_law_bad_programs_⟩, PySem.W.mg_of X G a_law_bad_programs⟩
  have F_law_all_refused_ := fun_mk (st := s_law_all_refused) l_law_all_refused c_law_all_refusedq k_law_all_refused
  have D_law_all_refused : DefAt K mg ("_law_all_refused" : Str) s_law_all_refused f_law_all_refused := ⟨⟨_, F_law_all_refused_⟩, PySem.W.mg_of X G a_law_all_refused⟩
  have C_law_all_refused : DefC K mg ("_law_all_refused" : Str) s_law_all_refused f_law_all_refused c_law_all_refused := ⟨⟨_, F_law_all_refused_, rfl⟩, PySem.W.mg_of X G a_law_all_refused⟩
  have F_law_ := fun_mk (st := s_law) l_law c_lawq k_law
  have D_law : DefAt K mg ("law" : Str) s_law f_law := ⟨⟨_, F_law_⟩, PySem.W.mg_of X G a_law⟩
  have C_law : DefC K mg ("law" : Str) s_law f_law c_law := ⟨⟨_, F_law_, rfl⟩, PySem.W.mg_of X G a_law⟩
  have F_law_names_ := fun_mk (st := s_law_names) l_law_names c_law_namesq k_law_names
  have D_law_names : DefAt K mg ("_law_names" : Str) s_law_names f_law_names := ⟨⟨_, F_law_names_⟩, PySem.W.mg_of X G a_law_names⟩
  have F_law_error_ := fun_mk (st := s_law_error) l_law_error c_law_errorq k_law_error
  have D_law_error : DefAt K mg ("_law_error" : Str) s_law_error f_law_error := ⟨⟨_, F_law_error_⟩, PySem.W.mg_of X G a_law_error⟩
  have F_law_told_ := fun_mk (st := s_law_told) l_law_told c_law_toldq k_law_told
  have D_law_told : DefAt K mg ("_law_told" : Str) s_law_told f_law_told := ⟨⟨_, F_law_told_⟩, PySem.W.mg_of X G a_law_told⟩
  have hB : Bn mg := ⟨PySem.W.mg_none_of X G z_len, PySem.W.mg_none_of X G z_abs, PySem.W.mg_none_of X G z_max, PySem.W.mg_none_of X G z_min, PySem.W.mg_none_of X G z_all, PySem.W.mg_none_of X G z_any, PySem.W.mg_none_of X G z_isinstance, PySem.W.mg_none_of X G z_range, PySem.W.mg_none_of X G z_int, PySem.W.mg_none_of X G z_str, PySem.W.mg_none_of X G z_tuple, PySem.W.mg_none_of X G z_list, PySem.W.mg_none_of X G z_zip⟩
  have gg_THINGS := PySem.W.mg_of X G g_THINGS
  have gg_LONGEST := PySem.W.mg_of X G g_LONGEST
  have gg_EMPTY := PySem.W.mg_of X G g_EMPTY
  let cv : Str → Value := fun x => if x = ("InvalidProgram" : Str) then .ref E_InvalidProgram else if x = ("InvalidText" : Str) then .ref E_InvalidText else .none
  have cv_InvalidProgram : cv ("InvalidProgram" : Str) = .ref E_InvalidProgram := by
    show (if ("InvalidProgram" : Str) = ("InvalidProgram" : Str) then Value.ref E_InvalidProgram else if ("InvalidProgram" : Str) = ("InvalidText" : Str) then Value.ref E_InvalidText else .none) = _
    rw [if_pos rfl]
  have er_InvalidProgram : ErrAt K mg cv ("InvalidProgram" : Str) := ⟨E_InvalidProgram, PySem.W.mg_of X G e_InvalidProgram, cv_InvalidProgram, r1_InvalidProgram, r2_InvalidProgram, r3_InvalidProgram, r4_InvalidProgram⟩
  have cv_InvalidText : cv ("InvalidText" : Str) = .ref E_InvalidText := by
    show (if ("InvalidText" : Str) = ("InvalidProgram" : Str) then Value.ref E_InvalidProgram else if ("InvalidText" : Str) = ("InvalidText" : Str) then Value.ref E_InvalidText else .none) = _
    rw [if_neg (by decide)]; rw [if_pos rfl]
  have er_InvalidText : ErrAt K mg cv ("InvalidText" : Str) := ⟨E_InvalidText, PySem.W.mg_of X G e_InvalidText, cv_InvalidText, r1_InvalidText, r2_InvalidText, r3_InvalidText, r4_InvalidText⟩
  let inst : Tbl := ⟨[(P_law_all_refused, fun _ _ => ("_law_all_refused.<locals>.<lambda>" : Str)), (P_law, fun _ _ => ("law.<locals>.<lambda>" : Str))]⟩
  refine ⟨PySem.W.fnOf "law" "law" (defArgs s_law) (defBody s_law) (defScope s_law) .none kV_law dc_law pm_law an_law (.ref c_law) ct_law, [(c_law_all_refused, P_law_all_refused), (c_law, P_law)], spD K cv (F_law f_program_text), ?_, ?_, ?_, fun s u => .of_eq rfl, fun H a ns hl hb hT hS => law_sp (by exact law_true _ ns hl hb) (fun p hp => ?_) hS, fun base KB GB TBs => ?_⟩
  · intro p hp
    simp only [List.mem_cons, List.not_mem_nil, or_false] at hp
    rcases hp with rfl | rfl
    · exact (htab _ _ _ hrec.1 t_law_all_refused).2
    · exact (htab _ _ _ hrec.2 t_law).2
  · intro p hp
    simp only [List.mem_cons, List.not_mem_nil, or_false] at hp
    rcases hp with rfl | rfl
    · exact n_law_all_refused
    · exact n_law
  · intro p hp
    simp only [List.mem_cons, List.not_mem_nil, or_false] at hp
    rcases hp with rfl | rfl
    · exact (htab _ _ _ hrec.1 t_law_all_refused).1
    · exact (htab _ _ _ hrec.2 t_law).1
  · simp only [inst, Tbl.T, List.mem_cons, List.not_mem_nil, or_false] at hp
    rcases hp with rfl | rfl
    · exact hT (c_law_all_refused, P_law_all_refused) (by simp)
    · exact hT (c_law, P_law) (by simp)
  · have PP : Program := PySem.Challenge.rw_grownblocks_k10_texts.prog
    have TB_law_all_refused := TBs (c_law_all_refused, P_law_all_refused) (by simp)
    have TB_law := TBs (c_law, P_law) (by simp)
    have xc_InvalidProgram : ExcC K E_InvalidProgram := ⟨r5_InvalidProgram, r6_InvalidProgram, r3_InvalidProgram, r7_InvalidProgram, r8_InvalidProgram, y1, y2, r9_InvalidProgram⟩
    have nm_InvalidProgram := names_law (P := PySem.Challenge.rw_grownblocks_k10_texts.prog) (w := w) (base := base) hB (PySem.W.mg_none_of X G z_ValueError) xc_InvalidProgram ⟨E_InvalidProgram, PySem.W.mg_of X G e_InvalidProgram, q0_InvalidProgram⟩ ⟨E_InvalidStanding, PySem.W.mg_of X G e_InvalidStanding, q1_InvalidProgram⟩ ⟨E_InvalidWeaving, PySem.W.mg_of X G e_InvalidWeaving, q2_InvalidProgram⟩ ⟨E_InvalidNumber, PySem.W.mg_of X G e_InvalidNumber, q3_InvalidProgram⟩ ⟨E_InvalidPaper, PySem.W.mg_of X G e_InvalidPaper, q4_InvalidProgram⟩ ⟨E_InvalidMove, PySem.W.mg_of X G e_InvalidMove, q5_InvalidProgram⟩ ⟨E_InvalidPair, PySem.W.mg_of X G e_InvalidPair, q6_InvalidProgram⟩ ⟨E_InvalidThing, PySem.W.mg_of X G e_InvalidThing, q7_InvalidProgram⟩ ⟨E_InvalidBeginning, PySem.W.mg_of X G e_InvalidBeginning, q8_InvalidProgram⟩ ⟨E_InvalidText, PySem.W.mg_of X G e_InvalidText, q9_InvalidProgram⟩ ⟨E_Ended, PySem.W.mg_of X G e_Ended, q10_InvalidProgram⟩ ⟨E_Blocked, PySem.W.mg_of X G e_Blocked, q11_InvalidProgram⟩ ⟨E_Unlike, PySem.W.mg_of X G e_Unlike, q12_InvalidProgram⟩ ⟨E_NothingToUndo, PySem.W.mg_of X G e_NothingToUndo, q13_InvalidProgram⟩ ⟨E_TooMany, PySem.W.mg_of X G e_TooMany, q14_InvalidProgram⟩ q15_InvalidProgram D_law_names told_InvalidProgram
    have xc_InvalidText : ExcC K E_InvalidText := ⟨r5_InvalidText, r6_InvalidText, r3_InvalidText, r7_InvalidText, r8_InvalidText, y1, y2, r9_InvalidText⟩
    have nm_InvalidText := names_law (P := PySem.Challenge.rw_grownblocks_k10_texts.prog) (w := w) (base := base) hB (PySem.W.mg_none_of X G z_ValueError) xc_InvalidText ⟨E_InvalidProgram, PySem.W.mg_of X G e_InvalidProgram, q0_InvalidText⟩ ⟨E_InvalidStanding, PySem.W.mg_of X G e_InvalidStanding, q1_InvalidText⟩ ⟨E_InvalidWeaving, PySem.W.mg_of X G e_InvalidWeaving, q2_InvalidText⟩ ⟨E_InvalidNumber, PySem.W.mg_of X G e_InvalidNumber, q3_InvalidText⟩ ⟨E_InvalidPaper, PySem.W.mg_of X G e_InvalidPaper, q4_InvalidText⟩ ⟨E_InvalidMove, PySem.W.mg_of X G e_InvalidMove, q5_InvalidText⟩ ⟨E_InvalidPair, PySem.W.mg_of X G e_InvalidPair, q6_InvalidText⟩ ⟨E_InvalidThing, PySem.W.mg_of X G e_InvalidThing, q7_InvalidText⟩ ⟨E_InvalidBeginning, PySem.W.mg_of X G e_InvalidBeginning, q8_InvalidText⟩ ⟨E_InvalidText, PySem.W.mg_of X G e_InvalidText, q9_InvalidText⟩ ⟨E_Ended, PySem.W.mg_of X G e_Ended, q10_InvalidText⟩ ⟨E_Blocked, PySem.W.mg_of X G e_Blocked, q11_InvalidText⟩ ⟨E_Unlike, PySem.W.mg_of X G e_Unlike, q12_InvalidText⟩ ⟨E_NothingToUndo, PySem.W.mg_of X G e_NothingToUndo, q13_InvalidText⟩ ⟨E_TooMany, PySem.W.mg_of X G e_TooMany, q14_InvalidText⟩ q15_InvalidText D_law_names told_InvalidText
    have tl : Told PySem.Challenge.rw_grownblocks_k10_texts.prog w K mg base 1 f_law_names E_GrownError cv nmc := fun c z hc => by
      unfold nmc at hc
      by_cases h_InvalidProgram : c = ("InvalidProgram" : Str)
      · rw [if_pos h_InvalidProgram] at hc; cases hc; subst h_InvalidProgram; exact ⟨E_InvalidProgram, cv_InvalidProgram, nm_InvalidProgram, ra_InvalidProgram⟩
      rw [if_neg h_InvalidProgram] at hc
      by_cases h_InvalidText : c = ("InvalidText" : Str)
      · rw [if_pos h_InvalidText] at hc; cases hc; subst h_InvalidText; exact ⟨E_InvalidText, cv_InvalidText, nm_InvalidText, ra_InvalidText⟩
      rw [if_neg h_InvalidText] at hc
      cases hc
    have L : LamEnv PySem.Challenge.rw_grownblocks_k10_texts.prog w K mg base cv nmc f_law_names E_GrownError := ⟨tl, PySem.W.mg_of X G e_GrownError, PySem.W.mg_of X G a_law_names, k_law_names⟩
    have U_is_step := fd_is_step (P := PySem.Challenge.rw_grownblocks_k10_texts.prog) (w := w) (base := base) (cv := cv) hB gg_THINGS D_is_step
    have U_is_good := fd_is_good (P := PySem.Challenge.rw_grownblocks_k10_texts.prog) (w := w) (base := base) (cv := cv) hB gg_LONGEST U_is_step D_is_good
    have U_need_program := fd_need_program (P := PySem.Challenge.rw_grownblocks_k10_texts.prog) (w := w) (base := base) (cv := cv) er_InvalidProgram U_is_good D_need_program
    have U_text_of := fd_text_of (P := PySem.Challenge.rw_grownblocks_k10_texts.prog) (w := w) (base := base) (cv := cv) gg_EMPTY D_text_of
    have U_program_in := fd_program_in (P := PySem.Challenge.rw_grownblocks_k10_texts.prog) (w := w) (base := base) (cv := cv) hB gg_EMPTY U_is_good D_program_in
    have U_program_text := fd_program_text (P := PySem.Challenge.rw_grownblocks_k10_texts.prog) (w := w) (base := base) (cv := cv) U_need_program U_text_of D_program_text
    have U_read_program := fd_read_program (P := PySem.Challenge.rw_grownblocks_k10_texts.prog) (w := w) (base := base) (cv := cv) er_InvalidText U_program_in D_read_program
    have U_law_vat := fd_law_vat (P := PySem.Challenge.rw_grownblocks_k10_texts.prog) (w := w) (base := base) (cv := cv) hB D_law_vat
    have U_law_under := fd_law_under (P := PySem.Challenge.rw_grownblocks_k10_texts.prog) (w := w) (base := base) hB D_law_under
    have U_law_some := fd_law_some (P := PySem.Challenge.rw_grownblocks_k10_texts.prog) (w := w) (base := base) hB U_law_under D_law_some
    have U_law_is_step := fd_law_is_step (P := PySem.Challenge.rw_grownblocks_k10_texts.prog) (w := w) (base := base) (cv := cv) hB D_law_is_step
    have U_law_is_program := fd_law_is_program (P := PySem.Challenge.rw_grownblocks_k10_texts.prog) (w := w) (base := base) (cv := cv) hB U_law_is_step D_law_is_program
    have U_law_program := fd_law_program (P := PySem.Challenge.rw_grownblocks_k10_texts.prog) (w := w) (base := base) hB U_law_some U_law_under D_law_program
    have U_law_known := fd_law_known (P := PySem.Challenge.rw_grownblocks_k10_texts.prog) (w := w) (base := base) (cv := cv) D_law_known
    have U_law_bad_programs := fd_law_bad_programs (P := PySem.Challenge.rw_grownblocks_k10_texts.prog) (w := w) (base := base) (cv := cv) D_law_bad_programs
    have U_law_all_refused := fd_law_all_refused (P := PySem.Challenge.rw_grownblocks_k10_texts.prog) (w := w) (base := base) (cv := cv) D_law_error L TB_law_all_refused (by simp [inst, Tbl.T]) (by intro p hp e; simp only [inst, Tbl.T, List.mem_cons, List.not_mem_nil, or_false] at hp; rcases hp with rfl | rfl <;> first | rfl | (exact absurd e (by first | assumption | exact Ne.symm (by assumption)))) rfl (FdAt.of (U_program_text.mono (by decide)) (PySem.W.mg_of X G a_program_text)) C_law_all_refused
    exact fn_law (P := PySem.Challenge.rw_grownblocks_k10_texts.prog) (w := w) (base := base) (cv := cv) hB D_program_text U_law_all_refused U_law_bad_programs D_law_error U_law_is_program U_law_known U_law_program U_law_some D_law_told U_law_under U_law_vat U_program_text U_read_program L TB_law (by simp [inst, Tbl.T]) (by intro p hp e; simp only [inst, Tbl.T, List.mem_cons, List.not_mem_nil, or_false] at hp; rcases hp with rfl | rfl <;> first | rfl | (exact absurd e (by first | assumption | exact Ne.symm (by assumption)))) rfl F_law_ rfl
end
end G
set_option pp.maxSteps 150
open PySem PySem.W PyProof.Rows
set_option maxRecDepth 100000 in
set_option maxHeartbeats 0 in
theorem PySem.Challenge.cw_grownblocks_k10_texts_holds : PySem.Challenge.rw_grownblocks_k10_texts.Holds := by
  w_on; o_law; k_head; (case hw => w_witness2)
  k_fill
  refine G.walk_tabs (l := PySem.Challenge.rw_grownblocks_k10_texts) (n := 63) (k := 10) (x := "script") (CX := fun w => L2N.CX PySem.Challenge.rw_grownblocks_k10_texts.prog w) rfl (by decide) rfl ⟨rfl, by decide, by decide⟩ (fun w h Y => by first | exact PySem.W.kIn_of Y | exact PySem.W.km_in_of Y) ?F (fun w H s e s' ⟨_, _, _, _, _, _, _, _, _, _, _, _, z⟩ => z)
  case F =>
    intro w mg fa h Y KX GB hmg htab
    refine' G.all_mk KX GB hmg ?a_is_step ?l_is_step ?c_is_stepq ?k_is_step ?a_is_good ?l_is_good ?c_is_goodq ?k_is_good ?a_need_program ?l_need_program ?c_need_programq ?k_need_program ?a_text_of ?l_text_of ?c_text_ofq ?k_text_of ?a_program_in ?l_program_in ?c_program_inq ?k_program_in ?a_program_text ?l_program_text ?c_program_textq ?k_program_text ?a_read_program ?l_read_program ?c_read_programq ?k_read_program ?a_law_vat ?l_law_vat ?c_law_vatq ?k_law_vat ?a_law_under ?l_law_under ?c_law_underq ?k_law_under ?a_law_some ?l_law_some ?c_law_someq ?k_law_some ?a_law_is_step ?l_law_is_step ?c_law_is_stepq ?k_law_is_step ?a_law_is_program ?l_law_is_program ?c_law_is_programq ?k_law_is_program ?a_law_program ?l_law_program ?c_law_programq ?k_law_program ?a_law_known ?l_law_known ?c_law_knownq ?k_law_known ?a_law_bad_programs ?l_law_bad_programs ?c_law_bad_programsq ?k_law_bad_programs ?a_law_all_refused ?l_law_all_refused ?c_law_all_refusedq ?k_law_all_refused ?t_law_all_refused ?n_law_all_refused ?a_law ?l_law ?c_lawq ?k_law ?t_law ?n_law ?a_law_names ?l_law_names ?c_law_namesq ?k_law_names ?a_law_error ?l_law_error ?c_law_errorq ?k_law_error ?a_law_told ?l_law_told ?c_law_toldq ?k_law_told ?z_len ?z_abs ?z_max ?z_min ?z_all ?z_any ?z_isinstance ?z_range ?z_int ?z_str ?z_tuple ?z_list ?z_zip ?g_THINGS ?g_LONGEST ?g_EMPTY ?e_GrownError ?e_InvalidProgram ?e_InvalidStanding ?e_InvalidWeaving ?e_InvalidNumber ?e_InvalidPaper ?e_InvalidMove ?e_InvalidPair ?e_InvalidThing ?e_InvalidBeginning ?e_InvalidText ?e_Ended ?e_Blocked ?e_Unlike ?e_NothingToUndo ?e_TooMany ?z_ValueError ?r1_InvalidProgram ?r2_InvalidProgram ?r3_InvalidProgram ?r4_InvalidProgram ?r5_InvalidProgram ?r6_InvalidProgram ?r7_InvalidProgram ?r8_InvalidProgram ?r9_InvalidProgram ?ra_InvalidProgram ?q0_InvalidProgram ?q1_InvalidProgram ?q2_InvalidProgram ?q3_InvalidProgram ?q4_InvalidProgram ?q5_InvalidProgram ?q6_InvalidProgram ?q7_InvalidProgram ?q8_InvalidProgram ?q9_InvalidProgram ?q10_InvalidProgram ?q11_InvalidProgram ?q12_InvalidProgram ?q13_InvalidProgram ?q14_InvalidProgram ?q15_InvalidProgram ?r1_InvalidText ?r2_InvalidText ?r3_InvalidText ?r4_InvalidText ?r5_InvalidText ?r6_InvalidText ?r7_InvalidText ?r8_InvalidText ?r9_InvalidText ?ra_InvalidText ?q0_InvalidText ?q1_InvalidText ?q2_InvalidText ?q3_InvalidText ?q4_InvalidText ?q5_InvalidText ?q6_InvalidText ?q7_InvalidText ?q8_InvalidText ?q9_InvalidText ?q10_InvalidText ?q11_InvalidText ?q12_InvalidText ?q13_InvalidText ?q14_InvalidText ?q15_InvalidText ?y1 ?y2 ?d1_0 htab ?hrec
    (case a_is_step => first | k_is | kernel_rfl | rfl)
    (case l_is_step => first | k_is | kernel_rfl | rfl)
    (case c_is_stepq => first | k_is | kernel_rfl | rfl)
    (case k_is_step => first | k_is | kernel_rfl | rfl)
    (case a_is_good => first | k_is | kernel_rfl | rfl)
    (case l_is_good => first | k_is | kernel_rfl | rfl)
    (case c_is_goodq => first | k_is | kernel_rfl | rfl)
    (case k_is_good => first | k_is | kernel_rfl | rfl)
    (case a_need_program => first | k_is | kernel_rfl | rfl)
    (case l_need_program => first | k_is | kernel_rfl | rfl)
    (case c_need_programq => first | k_is | kernel_rfl | rfl)
    (case k_need_program => first | k_is | kernel_rfl | rfl)
    (case a_text_of => first | k_is | kernel_rfl | rfl)
    (case l_text_of => first | k_is | kernel_rfl | rfl)
    (case c_text_ofq => first | k_is | kernel_rfl | rfl)
    (case k_text_of => first | k_is | kernel_rfl | rfl)
    (case a_program_in => first | k_is | kernel_rfl | rfl)
    (case l_program_in => first | k_is | kernel_rfl | rfl)
    (case c_program_inq => first | k_is | kernel_rfl | rfl)
    (case k_program_in => first | k_is | kernel_rfl | rfl)
    (case a_program_text => first | k_is | kernel_rfl | rfl)
    (case l_program_text => first | k_is | kernel_rfl | rfl)
    (case c_program_textq => first | k_is | kernel_rfl | rfl)
    (case k_program_text => first | k_is | kernel_rfl | rfl)
    (case a_read_program => first | k_is | kernel_rfl | rfl)
    (case l_read_program => first | k_is | kernel_rfl | rfl)
    (case c_read_programq => first | k_is | kernel_rfl | rfl)
    (case k_read_program => first | k_is | kernel_rfl | rfl)
    (case a_law_vat => first | k_is | kernel_rfl | rfl)
    (case l_law_vat => first | k_is | kernel_rfl | rfl)
    (case c_law_vatq => first | k_is | kernel_rfl | rfl)
    (case k_law_vat => first | k_is | kernel_rfl | rfl)
    (case a_law_under => first | k_is | kernel_rfl | rfl)
    (case l_law_under => first | k_is | kernel_rfl | rfl)
    (case c_law_underq => first | k_is | kernel_rfl | rfl)
    (case k_law_under => first | k_is | kernel_rfl | rfl)
    (case a_law_some => first | k_is | kernel_rfl | rfl)
    (case l_law_some => first | k_is | kernel_rfl | rfl)
    (case c_law_someq => first | k_is | kernel_rfl | rfl)
    (case k_law_some => first | k_is | kernel_rfl | rfl)
    (case a_law_is_step => first | k_is | kernel_rfl | rfl)
    (case l_law_is_step => first | k_is | kernel_rfl | rfl)
    (case c_law_is_stepq => first | k_is | kernel_rfl | rfl)
    (case k_law_is_step => first | k_is | kernel_rfl | rfl)
    (case a_law_is_program => first | k_is | kernel_rfl | rfl)
    (case l_law_is_program => first | k_is | kernel_rfl | rfl)
    (case c_law_is_programq => first | k_is | kernel_rfl | rfl)
    (case k_law_is_program => first | k_is | kernel_rfl | rfl)
    (case a_law_program => first | k_is | kernel_rfl | rfl)
    (case l_law_program => first | k_is | kernel_rfl | rfl)
    (case c_law_programq => first | k_is | kernel_rfl | rfl)
    (case k_law_program => first | k_is | kernel_rfl | rfl)
    (case a_law_known => first | k_is | kernel_rfl | rfl)
    (case l_law_known => first | k_is | kernel_rfl | rfl)
    (case c_law_knownq => first | k_is | kernel_rfl | rfl)
    (case k_law_known => first | k_is | kernel_rfl | rfl)
    (case a_law_bad_programs => first | k_is | kernel_rfl | rfl)
    (case l_law_bad_programs => first | k_is | kernel_rfl | rfl)
    (case c_law_bad_programsq => first | k_is | kernel_rfl | rfl)
    (case k_law_bad_programs => first | k_is | kernel_rfl | rfl)
    (case a_law_all_refused => first | k_is | kernel_rfl | rfl)
    (case l_law_all_refused => first | k_is | kernel_rfl | rfl)
    (case c_law_all_refusedq => first | k_is | kernel_rfl | rfl)
    (case k_law_all_refused => first | k_is | kernel_rfl | rfl)
    (case t_law_all_refused => first | rfl | with_unfolding_all rfl | k_is)
    (case n_law_all_refused => first | rfl | with_unfolding_all rfl | k_is)
    (case a_law => first | k_is | kernel_rfl | rfl)
    (case l_law => first | k_is | kernel_rfl | rfl)
    (case c_lawq => first | k_is | kernel_rfl | rfl)
    (case k_law => first | k_is | kernel_rfl | rfl)
    (case t_law => first | rfl | with_unfolding_all rfl | k_is)
    (case n_law => first | rfl | with_unfolding_all rfl | k_is)
    (case a_law_names => first | k_is | kernel_rfl | rfl)
    (case l_law_names => first | k_is | kernel_rfl | rfl)
    (case c_law_namesq => first | k_is | kernel_rfl | rfl)
    (case k_law_names => first | k_is | kernel_rfl | rfl)
    (case a_law_error => first | k_is | kernel_rfl | rfl)
    (case l_law_error => first | k_is | kernel_rfl | rfl)
    (case c_law_errorq => first | k_is | kernel_rfl | rfl)
    (case k_law_error => first | k_is | kernel_rfl | rfl)
    (case a_law_told => first | k_is | kernel_rfl | rfl)
    (case l_law_told => first | k_is | kernel_rfl | rfl)
    (case c_law_toldq => first | k_is | kernel_rfl | rfl)
    (case k_law_told => first | k_is | kernel_rfl | rfl)
    (case z_len => first | k_is | kernel_rfl | rfl)
    (case z_abs => first | k_is | kernel_rfl | rfl)
    (case z_max => first | k_is | kernel_rfl | rfl)
    (case z_min => first | k_is | kernel_rfl | rfl)
    (case z_all => first | k_is | kernel_rfl | rfl)
    (case z_any => first | k_is | kernel_rfl | rfl)
    (case z_isinstance => first | k_is | kernel_rfl | rfl)
    (case z_range => first | k_is | kernel_rfl | rfl)
    (case z_int => first | k_is | kernel_rfl | rfl)
    (case z_str => first | k_is | kernel_rfl | rfl)
    (case z_tuple => first | k_is | kernel_rfl | rfl)
    (case z_list => first | k_is | kernel_rfl | rfl)
    (case z_zip => first | k_is | kernel_rfl | rfl)
    (case g_THINGS => first | k_is | kernel_rfl | rfl)
    (case g_LONGEST => first | k_is | kernel_rfl | rfl)
    (case g_EMPTY => first | k_is | kernel_rfl | rfl)
    (case e_GrownError => first | k_is | kernel_rfl | rfl)
    (case e_InvalidProgram => first | k_is | kernel_rfl | rfl)
    (case e_InvalidStanding => first | k_is | kernel_rfl | rfl)
    (case e_InvalidWeaving => first | k_is | kernel_rfl | rfl)
    (case e_InvalidNumber => first | k_is | kernel_rfl | rfl)
    (case e_InvalidPaper => first | k_is | kernel_rfl | rfl)
    (case e_InvalidMove => first | k_is | kernel_rfl | rfl)
    (case e_InvalidPair => first | k_is | kernel_rfl | rfl)
    (case e_InvalidThing => first | k_is | kernel_rfl | rfl)
    (case e_InvalidBeginning => first | k_is | kernel_rfl | rfl)
    (case e_InvalidText => first | k_is | kernel_rfl | rfl)
    (case e_Ended => first | k_is | kernel_rfl | rfl)
    (case e_Blocked => first | k_is | kernel_rfl | rfl)
    (case e_Unlike => first | k_is | kernel_rfl | rfl)
    (case e_NothingToUndo => first | k_is | kernel_rfl | rfl)
    (case e_TooMany => first | k_is | kernel_rfl | rfl)
    (case z_ValueError => first | k_is | kernel_rfl | rfl)
    (case r1_InvalidProgram => first | k_is | kernel_rfl | rfl)
    (case r2_InvalidProgram => first | kernel_rfl | k_is | rfl)
    (case r3_InvalidProgram => first | k_is | kernel_rfl | rfl)
    (case r4_InvalidProgram => first | k_is | kernel_rfl | rfl)
    (case r5_InvalidProgram => first | k_is | kernel_rfl | rfl)
    (case r6_InvalidProgram => first | k_is | kernel_rfl | rfl)
    (case r7_InvalidProgram => first | k_is | kernel_rfl | rfl)
    (case r8_InvalidProgram => first | k_is | kernel_rfl | rfl)
    (case r9_InvalidProgram => first | k_is | kernel_rfl | rfl)
    (case ra_InvalidProgram => first | kernel_rfl | k_is | rfl)
    (case q0_InvalidProgram => first | kernel_rfl | k_is | rfl)
    (case q1_InvalidProgram => first | kernel_rfl | k_is | rfl)
    (case q2_InvalidProgram => first | kernel_rfl | k_is | rfl)
    (case q3_InvalidProgram => first | kernel_rfl | k_is | rfl)
    (case q4_InvalidProgram => first | kernel_rfl | k_is | rfl)
    (case q5_InvalidProgram => first | kernel_rfl | k_is | rfl)
    (case q6_InvalidProgram => first | kernel_rfl | k_is | rfl)
    (case q7_InvalidProgram => first | kernel_rfl | k_is | rfl)
    (case q8_InvalidProgram => first | kernel_rfl | k_is | rfl)
    (case q9_InvalidProgram => first | kernel_rfl | k_is | rfl)
    (case q10_InvalidProgram => first | kernel_rfl | k_is | rfl)
    (case q11_InvalidProgram => first | kernel_rfl | k_is | rfl)
    (case q12_InvalidProgram => first | kernel_rfl | k_is | rfl)
    (case q13_InvalidProgram => first | kernel_rfl | k_is | rfl)
    (case q14_InvalidProgram => first | kernel_rfl | k_is | rfl)
    (case q15_InvalidProgram => first | kernel_rfl | k_is | rfl)
    (case r1_InvalidText => first | k_is | kernel_rfl | rfl)
    (case r2_InvalidText => first | kernel_rfl | k_is | rfl)
    (case r3_InvalidText => first | k_is | kernel_rfl | rfl)
    (case r4_InvalidText => first | k_is | kernel_rfl | rfl)
    (case r5_InvalidText => first | k_is | kernel_rfl | rfl)
    (case r6_InvalidText => first | k_is | kernel_rfl | rfl)
    (case r7_InvalidText => first | k_is | kernel_rfl | rfl)
    (case r8_InvalidText => first | k_is | kernel_rfl | rfl)
    (case r9_InvalidText => first | k_is | kernel_rfl | rfl)
    (case ra_InvalidText => first | kernel_rfl | k_is | rfl)
    (case q0_InvalidText => first | kernel_rfl | k_is | rfl)
    (case q1_InvalidText => first | kernel_rfl | k_is | rfl)
    (case q2_InvalidText => first | kernel_rfl | k_is | rfl)
    (case q3_InvalidText => first | kernel_rfl | k_is | rfl)
    (case q4_InvalidText => first | kernel_rfl | k_is | rfl)
    (case q5_InvalidText => first | kernel_rfl | k_is | rfl)
    (case q6_InvalidText => first | kernel_rfl | k_is | rfl)
    (case q7_InvalidText => first | kernel_rfl | k_is | rfl)
    (case q8_InvalidText => first | kernel_rfl | k_is | rfl)
    (case q9_InvalidText => first | kernel_rfl | k_is | rfl)
    (case q10_InvalidText => first | kernel_rfl | k_is | rfl)
    (case q11_InvalidText => first | kernel_rfl | k_is | rfl)
    (case q12_InvalidText => first | kernel_rfl | k_is | rfl)
    (case q13_InvalidText => first | kernel_rfl | k_is | rfl)
    (case q14_InvalidText => first | kernel_rfl | k_is | rfl)
    (case q15_InvalidText => first | kernel_rfl | k_is | rfl)
    (case y1 => first | kernel_rfl | k_is | rfl)
    (case y2 => first | kernel_rfl | k_is | rfl)
    (case d1_0 => first | decide | decide +kernel | k_is)
    (case hrec => exact ⟨by first | kernel_rfl | decide +kernel, by first | kernel_rfl | decide +kernel⟩)
