import PyProof.Rows.All
import Wide.All
import OpenK.AllK
import Wide.FinOn
import HandS.ForMost
import HandS.IsInst
import HandS.Flow
import HandS.Wide
import HandS.TupAny
import HandS.Style
import HandS.NoneIn
import HandS.Zip
import HandS.Rev
import PyProof.ListStr
import PyProof.CollectStr
import HandS.RevTup
import HandS.Codes
import HandS.ReplaceLit
import HandS.ReplaceList
import PyProof.StrLawsReplace
import KE.KIntText
import KE.KxText
import HandS.Exc
import HandS.ExcOwn
import HandS.ExcInit
import HandS.ExcField
import HandS.ExcIs
import HandS.WordsExc
import OpenK.KCls
import KE.KIsAll
import KE.KTryMore
import HandS.FStr
import HandS.Strs
import HandS.SetFor
import HandS.More
import PyProof.Rows.StrJoinMade
import HandS.RevRange
import HandS.Conv
import KE.KStateDown
import HandS.Head0
import HandS.Head1
import HandS.Head2
import HandS.HeadEnd
import HandS.HeadHook1
import HandS.HeadHook2
import HandS.HeadHook3
import KE.SortData
import HandS.TupSets
import HandS.Flt
import KE.GoesZip
import KE.GoesMore
import HandS.Remove
import PySem.Challenge.RW_rowsbeneath_k30_whole_every_order_holds
set_option Elab.async false
set_option linter.all false
set_option maxRecDepth 100000
set_option maxHeartbeats 4000000
/-! data in trees (D), what is owned (Mu), a second reading over both -/
namespace Y
open PySem PySem.Spec PyProof.Rows L2

inductive D where
  | non | bl (b : Bool) | int (i : Int) | str (x : Str) | ty (n : String)
  /-- an object that is told elsewhere: owned, a class, or unknown -/
  | adr (a : Addr)
  | tup (ds : List D) | lst (ds : List D)
  /-- an instance that stays -/
  | obj (C : Addr) (ns : List Str) (ds : List D)
  /-- the script -/
  | scr (ns : List Int)
/-- what is owned: it may change -/
inductive MO where
  | lst (ds : List D)
  | dk (kvs : List (Key × D))
  | ins (C : Addr) (fs : List (Str × D))
abbrev Mu := Addr → Option MO
abbrev Env2 := List (Option D)
def mup (μ : Mu) (a : Addr) (m : MO) : Mu := fun b => if b = a then some m else μ b
def mdel (μ : Mu) (a : Addr) : Mu := fun b => if b = a then none else μ b
theorem mup_same {μ : Mu} {a m} : mup μ a m a = some m := by unfold mup; rw [if_pos rfl]
theorem mup_ne {μ : Mu} {a b m} (h : b ≠ a) : mup μ a m b = μ b := by unfold mup; rw [if_neg h]
theorem mdel_same {μ : Mu} {a} : mdel μ a a = none := by unfold mdel; rw [if_pos rfl]
theorem mdel_ne {μ : Mu} {a b} (h : b ≠ a) : mdel μ a b = μ b := by unfold mdel; rw [if_neg h]
theorem mdel_mup {μ : Mu} {a m} (h : μ a = none) : mdel (mup μ a m) a = μ := by
  funext b; unfold mdel mup
  by_cases e : b = a
  · subst e; rw [if_pos rfl, h]
  · rw [if_neg e, if_neg e]
theorem mup_mup {μ : Mu} {a m n} : mup (mup μ a m) a n = mup μ a n := by
  funext b; unfold mup; split <;> rfl

mutual
def Rp (K : PySem.W.Frag) (I : Hp) : D → V → Prop
  | .non, v => v = .non
  | .bl b, v => v = .bl b
  | .int i, v => v = .int i
  | .str x, v => v = .str x
  | .ty n, v => v = .ty n
  | .adr a, v => v = .ref a
  | .tup ds, v => ∃ a vs, v = .ref a ∧ SqT K I a vs ∧ RpA K I ds vs
  | .lst ds, v => ∃ a vs, v = .ref a ∧ I a = some (.lst vs) ∧ RpA K I ds vs
  | .obj C ns ds, v => ∃ a dx vs, v = .ref a ∧ I a = some (.ins C dx (ns.zip vs)) ∧ ns.length = ds.length ∧ RpA K I ds vs
  | .scr ns, v => ∃ a, v = .ref a ∧ SqL K I a (ns.map V.int)
def RpA (K : PySem.W.Frag) (I : Hp) : List D → List V → Prop
  | [], vs => vs = []
  | d :: ds, vs => ∃ v r, vs = v :: r ∧ Rp K I d v ∧ RpA K I ds r
end
def RpK (K : PySem.W.Frag) (I : Hp) : List (Key × D) → List (Key × V) → Prop := Paired fun p q => p.1 = q.1 ∧ Rp K I p.2 q.2
def RpF (K : PySem.W.Frag) (I : Hp) : List (Str × D) → List (Str × V) → Prop := Paired fun p q => p.1 = q.1 ∧ Rp K I p.2 q.2
def RpO (K : PySem.W.Frag) (I : Hp) : MO → HO → Prop
  | .lst ds, o => ∃ vs, o = .lst vs ∧ RpA K I ds vs
  | .dk kvs, o => ∃ hvs, o = .dK hvs ∧ RpK K I kvs hvs
  | .ins C fs, o => ∃ dx hfs, o = .ins C dx hfs ∧ RpF K I fs hfs

def Exx (H H' : Hp) : Prop := ∀ a o, H a = some o → H' a = some o
theorem Exx.refl (H : Hp) : Exx H H := fun _ _ h => h
theorem Exx.trans {H H1 H2 : Hp} (a : Exx H H1) (b : Exx H1 H2) : Exx H H2 := fun x o h => b x o (a x o h)
theorem Exx.rd {H H' : Hp} {a : Addr} {u : HO} (e : Exx H H') (h : Rd H a u) : Rd H' a u := by
  rcases h with h | ⟨o, h⟩
  · exact .inl (e a _ h)
  · exact .inr ⟨o, e a _ h⟩
theorem Exx.sqt {K : PySem.W.Frag} {H H' : Hp} {a : Addr} {xs : List V} (e : Exx H H') (h : SqT K H a xs) : SqT K H' a xs := by
  rcases h with h | h
  · exact .inl (e.rd h)
  · exact .inr h
theorem Exx.sql {K : PySem.W.Frag} {H H' : Hp} {a : Addr} {xs : List V} (e : Exx H H') (h : SqL K H a xs) : SqL K H' a xs := by
  rcases h with h | h
  · exact .inl (e.rd h)
  · exact .inr h
theorem Exx.new {H : Hp} {p : Addr} {o : HO} (h : H p = none) : Exx H (upd H p o) := fun a u e => by
  rw [upd_ne (ne_of_none e h)]; exact e
section
variable {K : PySem.W.Frag} {I I' : Hp}
mutual
theorem Rp.mono (e : Exx I I') : ∀ {d : D} {v : V}, Rp K I d v → Rp K I' d v
  | .non, _, h => h
  | .bl _, _, h => h
  | .int _, _, h => h
  | .str _, _, h => h
  | .ty _, _, h => h
  | .adr _, _, h => h
  | .tup ds, _, h => by
    obtain ⟨a, vs, h1, h2, h3⟩ := h
    exact ⟨a, vs, h1, e.sqt h2, RpA.mono e h3⟩
  | .lst ds, _, h => by
    obtain ⟨a, vs, h1, h2, h3⟩ := h
    exact ⟨a, vs, h1, e _ _ h2, RpA.mono e h3⟩
  | .obj C ns ds, _, h => by
    obtain ⟨a, dx, vs, h1, h2, h4, h3⟩ := h
    exact ⟨a, dx, vs, h1, e _ _ h2, h4, RpA.mono e h3⟩
  | .scr ns, _, h => by
    obtain ⟨a, h1, h2⟩ := h
    exact ⟨a, h1, e.sql h2⟩
theorem RpA.mono (e : Exx I I') : ∀ {ds : List D} {vs : List V}, RpA K I ds vs → RpA K I' ds vs
  | [], _, h => h
  | d :: ds, _, h => by
    obtain ⟨v, r, h1, h2, h3⟩ := h
    exact ⟨v, r, h1, Rp.mono e h2, RpA.mono e h3⟩
end
theorem RpK.mono (e : Exx I I') {kvs : List (Key × D)} {hvs : List (Key × V)} (h : RpK K I kvs hvs) : RpK K I' kvs hvs := Paired.mapP h fun _ _ q => ⟨q.1, Rp.mono e q.2⟩
theorem RpF.mono (e : Exx I I') {kvs : List (Str × D)} {hvs : List (Str × V)} (h : RpF K I kvs hvs) : RpF K I' kvs hvs := Paired.mapP h fun _ _ q => ⟨q.1, Rp.mono e q.2⟩
theorem RpO.mono (e : Exx I I') {m : MO} {o : HO} (h : RpO K I m o) : RpO K I' m o := by
  cases m with
  | lst ds => obtain ⟨vs, h1, h2⟩ := h; exact ⟨vs, h1, RpA.mono e h2⟩
  | dk kvs => obtain ⟨vs, h1, h2⟩ := h; exact ⟨vs, h1, RpK.mono e h2⟩
  | ins C fs => obtain ⟨dx, vs, h1, h2⟩ := h; exact ⟨dx, vs, h1, RpF.mono e h2⟩
theorem RpA.length : ∀ {ds : List D} {vs : List V}, RpA K I ds vs → vs.length = ds.length
  | [], _, h => by cases h; rfl
  | d :: ds, _, h => by
    obtain ⟨v, r, rfl, _, h3⟩ := h
    show r.length + 1 = ds.length + 1
    rw [RpA.length h3]
theorem RpA.get : ∀ {ds : List D} {vs : List V} {i : Nat} {d : D}, RpA K I ds vs → ds[i]? = some d → ∃ v, vs[i]? = some v ∧ Rp K I d v
  | [], _, _, _, _, e => by simp at e
  | d :: ds, _, 0, _, h, e => by
    obtain ⟨v, r, rfl, h2, _⟩ := h
    simp at e; subst e
    exact ⟨v, rfl, h2⟩
  | d :: ds, _, i + 1, d', h, e => by
    obtain ⟨v, r, rfl, _, h3⟩ := h
    obtain ⟨v', e1, e2⟩ := RpA.get (i := i) (d := d') h3 (by simpa using e)
    exact ⟨v', by simpa using e1, e2⟩
theorem RpA.append : ∀ {ds es : List D} {vs us : List V}, RpA K I ds vs → RpA K I es us → RpA K I (ds ++ es) (vs ++ us)
  | [], _, _, _, h, g => by cases h; exact g
  | d :: ds, _, _, _, h, g => by
    obtain ⟨v, r, rfl, h2, h3⟩ := h
    exact ⟨v, _, rfl, h2, RpA.append h3 g⟩
theorem RpA.one {d : D} {v : V} (h : Rp K I d v) : RpA K I [d] [v] := ⟨v, [], rfl, h, rfl⟩
theorem RpA.cons {d : D} {v : V} {ds : List D} {vs : List V} (h : Rp K I d v) (h' : RpA K I ds vs) : RpA K I (d :: ds) (v :: vs) := ⟨v, vs, rfl, h, h'⟩
theorem RpA.take : ∀ {ds : List D} {vs : List V} (n : Nat), RpA K I ds vs → RpA K I (ds.take n) (vs.take n)
  | _, _, 0, _ => by simp [RpA]
  | [], _, _ + 1, h => by cases h; simp [RpA]
  | d :: ds, _, n + 1, h => by
    obtain ⟨v, r, rfl, h2, h3⟩ := h
    exact ⟨v, _, rfl, h2, RpA.take n h3⟩
theorem RpA.drop : ∀ {ds : List D} {vs : List V} (n : Nat), RpA K I ds vs → RpA K I (ds.drop n) (vs.drop n)
  | _, _, 0, h => h
  | [], _, _ + 1, h => by cases h; simp [RpA]
  | d :: ds, _, n + 1, h => by
    obtain ⟨v, r, rfl, h2, h3⟩ := h
    exact RpA.drop n h3
theorem RpA.set : ∀ {ds : List D} {vs : List V} {d : D} {v : V} (n : Nat), RpA K I ds vs → Rp K I d v → RpA K I (ds.set n d) (vs.set n v)
  | [], _, _, _, _, h, _ => by cases h; simp [RpA]
  | d :: ds, _, _, _, 0, h, g => by
    obtain ⟨v, r, rfl, h2, h3⟩ := h
    exact ⟨_, _, rfl, g, h3⟩
  | d :: ds, _, _, _, n + 1, h, g => by
    obtain ⟨v, r, rfl, h2, h3⟩ := h
    exact ⟨_, _, rfl, h2, RpA.set n h3 g⟩
theorem RpA.reverse : ∀ {ds : List D} {vs : List V}, RpA K I ds vs → RpA K I ds.reverse vs.reverse
  | [], _, h => by cases h; simp [RpA]
  | d :: ds, _, h => by
    obtain ⟨v, r, rfl, h2, h3⟩ := h
    rw [List.reverse_cons, List.reverse_cons]
    exact RpA.append (RpA.reverse h3) (RpA.one h2)
theorem RpA.ints : ∀ (ns : List Int), RpA K I (ns.map D.int) (ns.map V.int)
  | [] => rfl
  | _ :: ns => ⟨_, _, rfl, rfl, RpA.ints ns⟩
theorem RpA.ints_inv : ∀ {ns : List Int} {vs : List V}, RpA K I (ns.map D.int) vs → vs = ns.map V.int
  | [], _, h => h
  | _ :: ns, _, h => by
    obtain ⟨v, r, rfl, h2, h3⟩ := h
    have e : v = _ := h2
    rw [e, RpA.ints_inv h3]; rfl
theorem RpA.strs : ∀ (ns : List Str), RpA K I (ns.map D.str) (ns.map V.str)
  | [] => rfl
  | _ :: ns => ⟨_, _, rfl, rfl, RpA.strs ns⟩
theorem RpA.strs_inv : ∀ {ns : List Str} {vs : List V}, RpA K I (ns.map D.str) vs → vs = ns.map V.str
  | [], _, h => h
  | _ :: ns, _, h => by
    obtain ⟨v, r, rfl, h2, h3⟩ := h
    have e : v = _ := h2
    rw [e, RpA.strs_inv h3]; rfl
theorem RpA.bls_inv : ∀ {ns : List Bool} {vs : List V}, RpA K I (ns.map D.bl) vs → vs = ns.map V.bl
  | [], _, h => h
  | _ :: ns, _, h => by
    obtain ⟨v, r, rfl, h2, h3⟩ := h
    have e : v = _ := h2
    rw [e, RpA.bls_inv h3]; rfl
end

/-- what a piece of code leaves -/
structure Kp (I : Hp) (μ : Mu) (H I' : Hp) (μ' : Mu) (H' : Hp) : Prop where
  ex : Exx I I'
  fr : ∀ a o, H a = some o → I a = none → μ a = none → H' a = some o ∧ I' a = none ∧ μ' a = none
/-- what is known of how things came here -/
class Jx where
  J : Hp → Mu → Hp → Prop
  step : ∀ {I μ H I' μ' H'}, J I μ H → Kp I μ H I' μ' H' → J I' μ' H'
abbrev Jx.triv : Jx := ⟨fun _ _ _ => True, fun _ _ => trivial⟩
/-- what is known of the heap: I stays, μ is owned -/
structure At0 (K : PySem.W.Frag) (μ : Mu) (I H : Hp) : Prop where
  sub : ∀ a o, I a = some o → H a = some o
  own : ∀ a m, μ a = some m → I a = none ∧ ∃ o, H a = some o ∧ RpO K I m o
structure At [Jx] (K : PySem.W.Frag) (μ : Mu) (I H : Hp) : Prop extends At0 K μ I H where
  j : Jx.J I μ H
theorem At0.triv {K : PySem.W.Frag} {μ : Mu} {I H : Hp} (a : At0 K μ I H) : @At Jx.triv K μ I H := @At.mk Jx.triv _ _ _ _ a trivial
def Slots (K : PySem.W.Frag) (I : Hp) (ρ : Env2) (σ : L2.St) : Prop :=
  ρ.length = σ.length ∧ ∀ (i : Nat) (d : D), ρ[i]? = some (some d) → ∃ v, σ[i]? = some (some v) ∧ Rp K I d v
section
variable {K : PySem.W.Frag} {I I' I1 I2 H H' H1 H2 : Hp} {μ μ' μ1 μ2 : Mu} {ρ : Env2} {σ : L2.St}
theorem Kp.refl : Kp I μ H I μ H := ⟨Exx.refl _, fun _ _ a b c => ⟨a, b, c⟩⟩
theorem Kp.trans (a : Kp I μ H I1 μ1 H1) (b : Kp I1 μ1 H1 I2 μ2 H2) : Kp I μ H I2 μ2 H2 :=
  ⟨a.ex.trans b.ex, fun x o h1 h2 h3 => let ⟨p, q, r⟩ := a.fr x o h1 h2 h3; b.fr x o p q r⟩
theorem Slots.mono (e : Exx I I') (h : Slots K I ρ σ) : Slots K I' ρ σ := ⟨h.1, fun i d q => let ⟨v, a, b⟩ := h.2 i d q; ⟨v, a, b.mono e⟩⟩
theorem Slots.set {d : D} {v : V} (i : Nat) (h : Slots K I ρ σ) (r : Rp K I d v) : Slots K I (ρ.set i (some d)) (σ.set i (some v)) := by
  refine ⟨by rw [List.length_set, List.length_set]; exact h.1, fun j e q => ?_⟩
  by_cases hj : i = j
  · subst hj
    by_cases hl : i < ρ.length
    · rw [List.getElem?_set_self hl] at q
      cases q
      exact ⟨v, List.getElem?_set_self (by rw [← h.1]; exact hl), r⟩
    · rw [List.getElem?_eq_none_iff.mpr (by rw [List.length_set]; omega)] at q
      cases q
  · rw [List.getElem?_set_ne hj] at q ⊢
    exact h.2 j e q
/-- a new object that stays -/
theorem At0.laid {p : Addr} {o : HO} (a : At0 K μ I H) (hp : H p = none) : At0 K μ (upd I p o) (upd H p o) := by
  have hI : I p = none := by
    cases q : I p with
    | none => rfl
    | some u => rw [a.sub p u q] at hp; cases hp
  refine ⟨fun b u e => ?_, fun b m e => ?_⟩
  · by_cases hb : b = p
    · subst hb; rw [upd_same] at e ⊢; exact e
    · rw [upd_ne hb] at e ⊢; exact a.sub b u e
  · obtain ⟨h1, u, h2, h3⟩ := a.own b m e
    have hb : b ≠ p := fun z => by rw [z, hp] at h2; cases h2
    exact ⟨by rw [upd_ne hb]; exact h1, u, by rw [upd_ne hb]; exact h2, h3.mono (Exx.new hI)⟩
theorem At0.noI {p : Addr} (a : At0 K μ I H) (hp : H p = none) : I p = none := by
  cases q : I p with
  | none => rfl
  | some u => rw [a.sub p u q] at hp; cases hp
theorem At0.noM {p : Addr} (a : At0 K μ I H) (hp : H p = none) : μ p = none := by
  cases q : μ p with
  | none => rfl
  | some m => obtain ⟨_, u, e, _⟩ := a.own p m q; rw [hp] at e; cases e
theorem Kp.laid {p : Addr} {o : HO} (hp : H p = none) (hI : I p = none) : Kp I μ H (upd I p o) μ (upd H p o) :=
  ⟨Exx.new hI, fun b u e h1 h2 => by
    have hb : b ≠ p := fun z => by rw [z, hp] at e; cases e
    exact ⟨by rw [upd_ne hb]; exact e, by rw [upd_ne hb]; exact h1, h2⟩⟩
/-- a new object that is owned -/
theorem At0.got {p : Addr} {o : HO} {m : MO} (a : At0 K μ I H) (hp : H p = none) (r : RpO K I m o) : At0 K (mup μ p m) I (upd H p o) := by
  have hI : I p = none := a.noI hp
  refine ⟨fun b u e => ?_, fun b n e => ?_⟩
  · rw [upd_ne (ne_of_none e hI)]; exact a.sub b u e
  · by_cases hb : b = p
    · subst hb
      rw [mup_same] at e; cases e
      exact ⟨hI, o, upd_same, r⟩
    · rw [mup_ne hb] at e
      obtain ⟨h1, u, h2, h3⟩ := a.own b n e
      exact ⟨h1, u, by rw [upd_ne hb]; exact h2, h3⟩
theorem Kp.got {p : Addr} {o : HO} {m : MO} (hp : H p = none) : Kp I μ H I (mup μ p m) (upd H p o) :=
  ⟨Exx.refl _, fun b u e h1 h2 => by
    have hb : b ≠ p := fun z => by rw [z, hp] at e; cases e
    exact ⟨by rw [upd_ne hb]; exact e, h1, by rw [mup_ne hb]; exact h2⟩⟩
/-- an owned object changed -/
theorem At0.put {p : Addr} {o : HO} {m m' : MO} (a : At0 K μ I H) (hp : μ p = some m') (r : RpO K I m o) : At0 K (mup μ p m) I (upd H p o) := by
  obtain ⟨hI, _⟩ := a.own p m' hp
  refine ⟨fun b u e => ?_, fun b n e => ?_⟩
  · rw [upd_ne (ne_of_none e hI)]; exact a.sub b u e
  · by_cases hb : b = p
    · subst hb
      rw [mup_same] at e; cases e
      exact ⟨hI, o, upd_same, r⟩
    · rw [mup_ne hb] at e
      obtain ⟨h1, u, h2, h3⟩ := a.own b n e
      exact ⟨h1, u, by rw [upd_ne hb]; exact h2, h3⟩
theorem Kp.put {p : Addr} {o : HO} {m m' : MO} (hp : μ p = some m') : Kp I μ H I (mup μ p m) (upd H p o) :=
  ⟨Exx.refl _, fun b u e h1 h2 => by
    have hb : b ≠ p := fun z => by rw [z, hp] at h2; cases h2
    exact ⟨by rw [upd_ne hb]; exact e, h1, by rw [mup_ne hb]; exact h2⟩⟩
/-- less is owned -/
theorem At0.less (a : At0 K μ I H) (h : ∀ b m, μ' b = some m → μ b = some m) : At0 K μ' I H := ⟨a.sub, fun b m e => a.own b m (h b m e)⟩
theorem Kp.less (h : ∀ b m, μ' b = some m → μ b = some m) : Kp I μ H I μ' H :=
  ⟨Exx.refl _, fun b o e h1 h2 => ⟨e, h1, by
    cases q : μ' b with
    | none => rfl
    | some m => rw [h b m q] at h2; cases h2⟩⟩
/-- an owned list stays from now on -/
theorem At0.frz {p : Addr} {o : HO} {m : MO} (a : At0 K μ I H) (hp : μ p = some m) (ho : H p = some o) : At0 K (mdel μ p) (upd I p o) H := by
  obtain ⟨hI, _⟩ := a.own p m hp
  refine ⟨fun b u e => ?_, fun b n e => ?_⟩
  · by_cases hb : b = p
    · subst hb; rw [upd_same] at e; cases e; exact ho
    · rw [upd_ne hb] at e; exact a.sub b u e
  · by_cases hb : b = p
    · subst hb; rw [mdel_same] at e; cases e
    · rw [mdel_ne hb] at e
      obtain ⟨h1, u, h2, h3⟩ := a.own b n e
      exact ⟨by rw [upd_ne hb]; exact h1, u, h2, h3.mono (Exx.new hI)⟩
theorem Kp.frz {p : Addr} {o : HO} {m : MO} (hp : μ p = some m) (hI : I p = none) : Kp I μ H (upd I p o) (mdel μ p) H :=
  ⟨Exx.new hI, fun b u e h1 h2 => by
    have hb : b ≠ p := fun z => by rw [z, hp] at h2; cases h2
    exact ⟨e, by rw [upd_ne hb]; exact h1, by rw [mdel_ne hb]; exact h2⟩⟩
theorem Kp.j [Jx] (k : Kp I μ H I' μ' H') (a : At K μ I H) : Jx.J I' μ' H' := Jx.step a.j k
theorem At0.up [Jx] (a : At0 K μ' I' H') (b : At K μ I H) (k : Kp I μ H I' μ' H') : At K μ' I' H' := ⟨a, Jx.step b.j k⟩
theorem At.noI [Jx] {p : Addr} (a : At K μ I H) (hp : H p = none) : I p = none := a.toAt0.noI hp
theorem At.noM [Jx] {p : Addr} (a : At K μ I H) (hp : H p = none) : μ p = none := a.toAt0.noM hp
theorem At.laid [Jx] {p : Addr} {o : HO} (a : At K μ I H) (hp : H p = none) : At K μ (upd I p o) (upd H p o) := ⟨a.toAt0.laid hp, Jx.step a.j (Kp.laid hp (a.noI hp))⟩
theorem At.got [Jx] {p : Addr} {o : HO} {m : MO} (a : At K μ I H) (hp : H p = none) (r : RpO K I m o) : At K (mup μ p m) I (upd H p o) := ⟨a.toAt0.got hp r, Jx.step a.j (Kp.got hp)⟩
theorem At.put [Jx] {p : Addr} {o : HO} {m m' : MO} (a : At K μ I H) (hp : μ p = some m') (r : RpO K I m o) : At K (mup μ p m) I (upd H p o) := ⟨a.toAt0.put hp r, Jx.step a.j (Kp.put hp)⟩
theorem At.less [Jx] (a : At K μ I H) (h : ∀ b m, μ' b = some m → μ b = some m) : At K μ' I H := ⟨a.toAt0.less h, Jx.step a.j (Kp.less h)⟩
theorem At.frz [Jx] {p : Addr} {o : HO} {m : MO} (a : At K μ I H) (hp : μ p = some m) (ho : H p = some o) : At K (mdel μ p) (upd I p o) H := ⟨a.toAt0.frz hp ho, Jx.step a.j (Kp.frz hp (a.own p m hp).1)⟩
end

/-! ### the second readings -/
abbrev DK := D → Mu → Prop
abbrev TE2 := Env2 → Mu → DK → Prop
abbrev TT2 := Env2 → Mu → (Mu → Prop) → (Mu → Prop) → Prop
abbrev TA2 := Env2 → Mu → (List D → Mu → Prop) → Prop
structure Ends2 where
  nx : Env2 → Mu → Prop
  rt : DK
  bk : Env2 → Mu → Prop := fun _ _ => False
  ct : Env2 → Mu → Prop := fun _ _ => False
abbrev TS2 := Ends2 → Env2 → Mu → Prop
/-- what follows an expression -/
def Go [Jx] (K : PySem.W.Frag) (I : Hp) (μ : Mu) (H : Hp) (Q2 : DK) (Q : VK) : Prop :=
  ∀ d μ' v I' H', Q2 d μ' → At K μ' I' H' → Kp I μ H I' μ' H' → Rp K I' d v → Q v H'
def GoA [Jx] (K : PySem.W.Frag) (I : Hp) (μ : Mu) (H : Hp) (Q2 : List D → Mu → Prop) (Q : List V → Hp → Prop) : Prop :=
  ∀ ds μ' vs I' H', Q2 ds μ' → At K μ' I' H' → Kp I μ H I' μ' H' → RpA K I' ds vs → Q vs H'
def GoU [Jx] (K : PySem.W.Frag) (I : Hp) (μ : Mu) (H : Hp) (Q2 : Mu → Prop) (Q : Hp → Prop) : Prop :=
  ∀ μ' I' H', Q2 μ' → At K μ' I' H' → Kp I μ H I' μ' H' → Q H'
def GoE [Jx] (K : PySem.W.Frag) (I : Hp) (μ : Mu) (H : Hp) (Q2 : Env2 → Mu → Prop) (Q : L2.St → Hp → Prop) : Prop :=
  ∀ ρ' μ' σ' I' H', Q2 ρ' μ' → At K μ' I' H' → Slots K I' ρ' σ' → Kp I μ H I' μ' H' → Q σ' H'
def RE [Jx] (K : PySem.W.Frag) (te : TE) (t : TE2) : Prop :=
  ∀ ρ μ Q2, t ρ μ Q2 → ∀ I σ H, At K μ I H → Slots K I ρ σ → ∀ Q : VK, Go K I μ H Q2 Q → te σ H Q
def RT [Jx] (K : PySem.W.Frag) (tt : TT) (t : TT2) : Prop :=
  ∀ ρ μ T F, t ρ μ T F → ∀ I σ H, At K μ I H → Slots K I ρ σ → ∀ Q : Bool → Hp → Prop, GoU K I μ H T (Q true) → GoU K I μ H F (Q false) → tt σ H Q
def RA [Jx] (K : PySem.W.Frag) (ta : TA) (t : TA2) : Prop :=
  ∀ ρ μ Q2, t ρ μ Q2 → ∀ I σ H, At K μ I H → Slots K I ρ σ → ∀ Q : List V → Hp → Prop, GoA K I μ H Q2 Q → ta σ H Q
structure GoS [Jx] (K : PySem.W.Frag) (I : Hp) (μ : Mu) (H : Hp) (D2 : Ends2) (D : Ends) : Prop where
  nx : GoE K I μ H D2.nx D.nx
  rt : Go K I μ H D2.rt D.rt
  bk : GoE K I μ H D2.bk D.bk
  ct : GoE K I μ H D2.ct D.ct
def RS [Jx] (K : PySem.W.Frag) (ts : TS) (t : TS2) : Prop :=
  ∀ D2 ρ μ, t D2 ρ μ → ∀ I σ H, At K μ I H → Slots K I ρ σ → ∀ D : Ends, GoS K I μ H D2 D → ts D σ H
section
variable {K : PySem.W.Frag} {I I1 H H1 : Hp} {μ μ1 : Mu}
theorem Go.past [Jx] {Q2 : DK} {Q : VK} (g : Go K I μ H Q2 Q) (k : Kp I μ H I1 μ1 H1) : Go K I1 μ1 H1 Q2 Q := fun d μ' v I' H' q a k' r => g d μ' v I' H' q a (k.trans k') r
theorem GoU.past [Jx] {Q2 : Mu → Prop} {Q : Hp → Prop} (g : GoU K I μ H Q2 Q) (k : Kp I μ H I1 μ1 H1) : GoU K I1 μ1 H1 Q2 Q := fun μ' I' H' q a k' => g μ' I' H' q a (k.trans k')
theorem GoA.past [Jx] {Q2 : List D → Mu → Prop} {Q : List V → Hp → Prop} (g : GoA K I μ H Q2 Q) (k : Kp I μ H I1 μ1 H1) : GoA K I1 μ1 H1 Q2 Q := fun d μ' v I' H' q a k' r => g d μ' v I' H' q a (k.trans k') r
theorem GoE.past [Jx] {Q2 : Env2 → Mu → Prop} {Q : L2.St → Hp → Prop} (g : GoE K I μ H Q2 Q) (k : Kp I μ H I1 μ1 H1) : GoE K I1 μ1 H1 Q2 Q := fun ρ' μ' σ' I' H' q a s k' => g ρ' μ' σ' I' H' q a s (k.trans k')
theorem GoS.past [Jx] {D2 : Ends2} {D : Ends} (g : GoS K I μ H D2 D) (k : Kp I μ H I1 μ1 H1) : GoS K I1 μ1 H1 D2 D := ⟨g.nx.past k, g.rt.past k, g.bk.past k, g.ct.past k⟩
/-- the same with nothing known of how things came here -/
def Go0 (K : PySem.W.Frag) (I : Hp) (μ : Mu) (H : Hp) (Q2 : DK) (Q : VK) : Prop := ∀ d μ' v I' H', Q2 d μ' → At0 K μ' I' H' → Kp I μ H I' μ' H' → Rp K I' d v → Q v H'
def GoU0 (K : PySem.W.Frag) (I : Hp) (μ : Mu) (H : Hp) (Q2 : Mu → Prop) (Q : Hp → Prop) : Prop := ∀ μ' I' H', Q2 μ' → At0 K μ' I' H' → Kp I μ H I' μ' H' → Q H'
theorem Go0.t {Q2 : DK} {Q : VK} (g : Go0 K I μ H Q2 Q) : @Go Jx.triv K I μ H Q2 Q := fun d μ' v I' H' q a k r => g d μ' v I' H' q (@At.toAt0 Jx.triv _ _ _ _ a) k r
theorem GoU0.t {Q2 : Mu → Prop} {Q : Hp → Prop} (g : GoU0 K I μ H Q2 Q) : @GoU Jx.triv K I μ H Q2 Q := fun μ' I' H' q a k => g μ' I' H' q (@At.toAt0 Jx.triv _ _ _ _ a) k
theorem Go.low [Jx] {Q2 : DK} {Q : VK} (g : Go K I μ H Q2 Q) (hA : At K μ I H) : Go0 K I μ H Q2 Q := fun d μ' v I' H' q a k r => g d μ' v I' H' q (a.up hA k) k r
theorem GoU.low [Jx] {Q2 : Mu → Prop} {Q : Hp → Prop} (g : GoU K I μ H Q2 Q) (hA : At K μ I H) : GoU0 K I μ H Q2 Q := fun μ' I' H' q a k => g μ' I' H' q (a.up hA k) k
end

structure PE2 [Jx] (X : Cx) (e : Expr) (te : TE) (t : TE2) : Prop where
  pe : PE X e te
  re : RE X.K te t
structure PT2 [Jx] (X : Cx) (e : Expr) (tt : TT) (t : TT2) : Prop where
  pt : PT X e tt
  re : RT X.K tt t
structure PW2 [Jx] (X : Cx) (e : Expr) (tt : TT) (t : TT2) : Prop where
  pw : PW X e tt
  re : RT X.K tt t
structure PTs2 [Jx] (X : Cx) (es : List Expr) (tt : TT) (t : TT2) : Prop where
  pt : PTs X es tt
  re : RT X.K tt t
structure PA2 [Jx] (X : Cx) (es : List Expr) (ta : TA) (t : TA2) : Prop where
  pa : PA X es ta
  re : RA X.K ta t
structure PS2 [Jx] (X : Cx) (st : Stmt) (ts : TS) (t : TS2) : Prop where
  ps : PS X st ts
  re : RS X.K ts t
structure PSs2 [Jx] (X : Cx) (st : List Stmt) (ts : TS) (t : TS2) : Prop where
  ps : PSs X st ts
  re : RS X.K ts t
end Y

set_option Elab.async false
set_option linter.all false
set_option maxRecDepth 100000
set_option maxHeartbeats 4000000
namespace Y
open PySem PySem.Spec PyProof.Rows L2
/-- a branch -/
def Br (b : Bool) (T F : Prop) : Prop := (b = true → T) ∧ (b = false → F)
theorem Br.go {b : Bool} {T F T' F' : Prop} (h : Br b T F) (t : T → T') (f : F → F') : Br b T' F' := ⟨fun e => t (h.1 e), fun e => f (h.2 e)⟩
theorem Br.ite {b : Bool} {T F : Prop} (h : Br b T F) : if b = true then T else F := by
  cases b with
  | true => rw [if_pos rfl]; exact h.1 rfl
  | false => rw [if_neg Bool.false_ne_true]; exact h.2 rfl
/-- a list: owned, or one that stays -/
def asL (μ : Mu) : D → Option (List D)
  | .lst ds => some ds
  | .adr a => match μ a with
    | some (.lst ds) => some ds
    | _ => none
  | _ => none
/-- a list or a tuple -/
def asS (μ : Mu) : D → Option (List D)
  | .tup ds => some ds
  | d => asL μ d
section
variable {K : PySem.W.Frag} {I H : Hp} {μ : Mu}
theorem asL_at [Jx] {d : D} {v : V} {ds : List D} (a : At K μ I H) (r : Rp K I d v) (h : asL μ d = some ds) : ∃ p vs, v = .ref p ∧ H p = some (.lst vs) ∧ RpA K I ds vs := by
  cases d with
  | lst es =>
    cases (show some es = some ds from h)
    obtain ⟨p, vs, e, h1, h2⟩ := r
    exact ⟨p, vs, e, a.sub _ _ h1, h2⟩
  | adr p =>
    cases q : μ p with
    | none => simp [asL, q] at h
    | some m =>
      cases m with
      | lst es =>
        have e : es = ds := by simpa [asL, q] using h
        subst e
        obtain ⟨_, o, ho, vs, rfl, hr⟩ := a.own p _ q
        exact ⟨p, vs, r, ho, hr⟩
      | dk _ => simp [asL, q] at h
      | ins _ _ => simp [asL, q] at h
  | non => cases h
  | bl _ => cases h
  | int _ => cases h
  | str _ => cases h
  | ty _ => cases h
  | tup _ => cases h
  | obj _ _ _ => cases h
  | scr _ => cases h
theorem asS_at [Jx] {d : D} {v : V} {ds : List D} (a : At K μ I H) (r : Rp K I d v) (h : asS μ d = some ds) : ∃ p vs, v = .ref p ∧ (SqL K H p vs ∨ SqT K H p vs) ∧ RpA K I ds vs := by
  cases d with
  | tup es =>
    cases (show some es = some ds from h)
    obtain ⟨p, vs, e, h1, h2⟩ := r
    exact ⟨p, vs, e, .inr ((show Exx I H from a.sub).sqt h1), h2⟩
  | lst es => obtain ⟨p, vs, e, h1, h2⟩ := asL_at a r h; exact ⟨p, vs, e, .inl (SqL.of h1), h2⟩
  | adr p => obtain ⟨p, vs, e, h1, h2⟩ := asL_at a r h; exact ⟨p, vs, e, .inl (SqL.of h1), h2⟩
  | non => cases h
  | bl _ => cases h
  | int _ => cases h
  | str _ => cases h
  | ty _ => cases h
  | obj _ _ _ => cases h
  | scr _ => cases h
end

/-! ### names, constants -/
section
variable {X : Cx} {K : PySem.W.Frag} {a b c e : Expr} {es rest : List Expr} {ta tb tc te : TE} {ta2 tb2 tc2 te2 : TE2} {pos : Pos} {tt tu : TT} {tt2 tu2 : TT2} {tl : TA} {tl2 : TA2}
def dVar (i : Nat) : TE2 := fun ρ μ Q => ∃ d, ρ[i]? = some (some d) ∧ Q d μ
def dC (d : D) : TE2 := fun _ μ Q => Q d μ
theorem w_var {i : Nat} {ρ : Env2} {μ : Mu} {Q : DK} {d : D} (h : ρ[i]? = some (some d)) (q : Q d μ) : dVar i ρ μ Q := ⟨d, h, q⟩
theorem w_c {d : D} {ρ : Env2} {μ : Mu} {Q : DK} (q : Q d μ) : dC d ρ μ Q := q
theorem e_pv [Jx] (i : Nat) (h : PE X e (tVar i)) : PE2 X e (tVar i) (dVar i) := ⟨h, fun ρ μ Q2 q I σ H hA hS Q g => by
  obtain ⟨d, h1, h2⟩ := q
  obtain ⟨v, e1, e2⟩ := hS.2 i d h1
  exact ⟨v, e1, g d μ v I H h2 hA Kp.refl e2⟩⟩
theorem e_cst [Jx] {v : V} {d : D} (h : PE X e (tC v)) (r : ∀ I, Rp X.K I d v) : PE2 X e (tC v) (dC d) := ⟨h, fun ρ μ Q2 q I σ H hA hS Q g => g d μ v I H q hA Kp.refl (r I)⟩
theorem e_int [Jx] {i : Int} {j} : PE2 X (.Constant (.int i) j pos) (tC (.int i)) (dC (.int i)) := e_cst pe_int fun _ => rfl
theorem e_bl [Jx] {b j} : PE2 X (.Constant (.bool b) j pos) (tC (.bl b)) (dC (.bl b)) := e_cst pe_bl fun _ => rfl
theorem e_non [Jx] {j} : PE2 X (.Constant .none j pos) (tC .non) (dC .non) := e_cst pe_non fun _ => rfl
theorem e_str [Jx] {x j} : PE2 X (.Constant (.str x) j pos) (tC (.str x)) (dC (.str x)) := e_cst pe_str fun _ => rfl

/-! ### operators -/
abbrev DR2 := D → D → Mu → DK → Prop
abbrev DR1 := D → Mu → DK → Prop
def RR [Jx] (K : PySem.W.Frag) (r : R2) (r2 : DR2) : Prop := ∀ x y μ Q2, r2 x y μ Q2 → ∀ I H vx vy, At K μ I H → Rp K I x vx → Rp K I y vy → ∀ Q : VK, Go K I μ H Q2 Q → r vx vy H Q
def RU1 [Jx] (K : PySem.W.Frag) (r : V → Hp → VK → Prop) (r2 : DR1) : Prop := ∀ x μ Q2, r2 x μ Q2 → ∀ I H vx, At K μ I H → Rp K I x vx → ∀ Q : VK, Go K I μ H Q2 Q → r vx H Q
def dOp (r : DR2) (ta tb : TE2) : TE2 := fun ρ μ Q => ta ρ μ fun x μ1 => tb ρ μ1 fun y μ2 => r x y μ2 Q
def dUn (r : DR1) (ta : TE2) : TE2 := fun ρ μ Q => ta ρ μ fun x μ1 => r x μ1 Q
theorem w_op {r : DR2} {ρ : Env2} {μ : Mu} {Q : DK} (h : ta2 ρ μ fun x μ1 => tb2 ρ μ1 fun y μ2 => r x y μ2 Q) : dOp r ta2 tb2 ρ μ Q := h
theorem w_un {r : DR1} {ρ : Env2} {μ : Mu} {Q : DK} (h : ta2 ρ μ fun x μ1 => r x μ1 Q) : dUn r ta2 ρ μ Q := h
theorem re_op [Jx] {r : R2} {r2 : DR2} (hr : RR K r r2) (ha : RE K ta ta2) (hb : RE K tb tb2) : RE K (tOp r ta tb) (dOp r2 ta2 tb2) := fun ρ μ Q2 q I σ H hA hS Q g =>
  ha ρ μ _ q I σ H hA hS _ fun x μ1 vx I1 H1 q1 a1 k1 r1 => hb ρ μ1 _ q1 I1 σ H1 a1 (hS.mono k1.ex) _ fun y μ2 vy I2 H2 q2 a2 k2 r2' =>
    hr x y μ2 Q2 q2 I2 H2 vx vy a2 (r1.mono k2.ex) r2' Q (g.past (k1.trans k2))
theorem re_un [Jx] {r : V → Hp → VK → Prop} {r2 : DR1} (hr : RU1 K r r2) (ha : RE K ta ta2) : RE K (tUn r ta) (dUn r2 ta2) := fun ρ μ Q2 q I σ H hA hS Q g =>
  ha ρ μ _ q I σ H hA hS _ fun x μ1 vx I1 H1 q1 a1 k1 r1 => hr x μ1 Q2 q1 I1 H1 vx a1 r1 Q (g.past k1)
theorem e_op [Jx] {op : Operator} {r : R2} {r2 : DR2} (ho : OpR X (binaryOp op) r) (hr : RR X.K r r2) (ha : PE2 X a ta ta2) (hb : PE2 X b tb tb2) : PE2 X (.BinOp a op b pos) (tOp r ta tb) (dOp r2 ta2 tb2) :=
  ⟨pe_op ho ha.pe hb.pe, re_op hr ha.re hb.re⟩
theorem e_cmp [Jx] {op : CmpOp} {r : R2} {r2 : DR2} (ho : OpR X (compareOp op) r) (hr : RR X.K r r2) (ha : PE2 X a ta ta2) (hb : PE2 X b tb tb2) (hm : behindInMarks op b = false) : PE2 X (.Compare a [op] [b] pos) (tOp r ta tb) (dOp r2 ta2 tb2) :=
  ⟨pe_cmpR ho ha.pe hb.pe hm, re_op hr ha.re hb.re⟩
theorem e_un [Jx] {op : UnaryOp} {r : V → Hp → VK → Prop} {r2 : DR1} (ho : UnR X (unaryOp op) r) (hr : RU1 X.K r r2) (ha : PE2 X a ta ta2) : PE2 X (.UnaryOp op a pos) (tUn r ta) (dUn r2 ta2) :=
  ⟨pe_un ho ha.pe, re_un hr ha.re⟩
/-- one rule or another one -/
def rOr (r s : R2) : R2 := fun x y H Q => r x y H Q ∨ s x y H Q
theorem opOr {f : Value → Value → Sem Value} {r s : R2} (h : OpR X f r) (g : OpR X f s) : OpR X f (rOr r s) := by
  intro pins s' σ H x y v u Q I rx ry q
  rcases q with q | q
  · exact h pins s' σ H x y v u Q I rx ry q
  · exact g pins s' σ H x y v u Q I rx ry q
/-- two ints -/
def dI0 (g : Int → Int → D) : DR2 := fun x y μ Q => ∃ i j, x = .int i ∧ y = .int j ∧ Q (g i j) μ
def dI (C : Int → Int → Prop) (g : Int → Int → D) : DR2 := fun x y μ Q => ∃ i j, x = .int i ∧ y = .int j ∧ C i j ∧ Q (g i j) μ
theorem rr_I0 [Jx] {g : Int → Int → V} {g2 : Int → Int → D} (h : ∀ I i j, Rp K I (g2 i j) (g i j) := by intros; rfl) : RR K (rI0 g) (dI0 g2) := fun x y μ Q2 q I H vx vy hA rx ry Q k => by
  obtain ⟨i, j, rfl, rfl, q⟩ := q
  exact ⟨i, j, rx, ry, k _ μ _ I H q hA Kp.refl (h I i j)⟩
theorem rr_I [Jx] {C : Int → Int → Prop} {g : Int → Int → V} {g2 : Int → Int → D} (h : ∀ I i j, Rp K I (g2 i j) (g i j) := by intros; rfl) : RR K (rI C g) (dI C g2) := fun x y μ Q2 q I H vx vy hA rx ry Q k => by
  obtain ⟨i, j, rfl, rfl, c, q⟩ := q
  exact ⟨i, j, rx, ry, c, k _ μ _ I H q hA Kp.refl (h I i j)⟩
theorem w_I0 {g : Int → Int → D} {i j : Int} {μ : Mu} {Q : DK} (q : Q (g i j) μ) : dI0 g (.int i) (.int j) μ Q := ⟨i, j, rfl, rfl, q⟩
theorem w_I {C : Int → Int → Prop} {g : Int → Int → D} {i j : Int} {μ : Mu} {Q : DK} (c : C i j) (q : Q (g i j) μ) : dI C g (.int i) (.int j) μ Q := ⟨i, j, rfl, rfl, c, q⟩

abbrev rvSub : R2 := rI0 fun i j => .int (i - j)
abbrev rvMul : R2 := rI CMul fun i j => .int (i * j)
abbrev rvMulW : R2 := rI CMulW fun i j => .int (i * j)
abbrev rvMod : R2 := rI (fun _ j => 0 < j) fun i j => .int (i % j)
abbrev rvFdiv : R2 := rI CDivW fun i j => .int (i / j)
abbrev rvPow : R2 := rI CPow fun i j => .int (i ^ j.toNat)
abbrev rvShl : R2 := rI CPow fun i j => .int (i * 2 ^ j.toNat)
abbrev rvShr : R2 := rI (fun _ j => 0 ≤ j) fun i j => .int (i / 2 ^ j.toNat)
abbrev rvBitAnd : R2 := rI0 fun i j => .int (Builtin.bitAnd i j)
abbrev rvBitOr : R2 := rI0 fun i j => .int (Builtin.bitOr i j)
abbrev rvBitXor : R2 := rI0 fun i j => .int (Builtin.bitXor i j)
abbrev rvLt : R2 := rI0 fun i j => .bl (decide (i < j))
abbrev rvLe : R2 := rI0 fun i j => .bl (decide (i ≤ j))
abbrev rvGt : R2 := rI0 fun i j => .bl (decide (j < i))
abbrev rvGe : R2 := rI0 fun i j => .bl (decide (j ≤ i))
def dSub : DR2 := dI0 fun i j => .int (i - j)
def dMul : DR2 := dI CMul fun i j => .int (i * j)
def dMulW : DR2 := dI CMulW fun i j => .int (i * j)
def dMod : DR2 := dI (fun _ j => 0 < j) fun i j => .int (i % j)
def dFdiv : DR2 := dI CDivW fun i j => .int (i / j)
def dPow : DR2 := dI CPow fun i j => .int (i ^ j.toNat)
def dShl : DR2 := dI CPow fun i j => .int (i * 2 ^ j.toNat)
def dShr : DR2 := dI (fun _ j => 0 ≤ j) fun i j => .int (i / 2 ^ j.toNat)
def dBitAnd : DR2 := dI0 fun i j => .int (Builtin.bitAnd i j)
def dBitOr : DR2 := dI0 fun i j => .int (Builtin.bitOr i j)
def dBitXor : DR2 := dI0 fun i j => .int (Builtin.bitXor i j)
theorem e_sub [Jx] (ha : PE2 X a ta ta2) (hb : PE2 X b tb tb2) : PE2 X (.BinOp a .Sub b pos) (tOp rvSub ta tb) (dOp dSub ta2 tb2) := e_op op_sub rr_I0 ha hb
theorem e_mul [Jx] (ha : PE2 X a ta ta2) (hb : PE2 X b tb tb2) : PE2 X (.BinOp a .Mult b pos) (tOp rvMul ta tb) (dOp dMul ta2 tb2) := e_op op_mul rr_I ha hb
theorem e_mulW [Jx] (ha : PE2 X a ta ta2) (hb : PE2 X b tb tb2) : PE2 X (.BinOp a .Mult b pos) (tOp rvMulW ta tb) (dOp dMulW ta2 tb2) := e_op op_mulW rr_I ha hb
theorem e_mod [Jx] (ha : PE2 X a ta ta2) (hb : PE2 X b tb tb2) : PE2 X (.BinOp a .Mod b pos) (tOp rvMod ta tb) (dOp dMod ta2 tb2) := e_op op_mod rr_I ha hb
theorem e_fdiv [Jx] (ha : PE2 X a ta ta2) (hb : PE2 X b tb tb2) : PE2 X (.BinOp a .FloorDiv b pos) (tOp rvFdiv ta tb) (dOp dFdiv ta2 tb2) := e_op op_fdivW rr_I ha hb
theorem e_pow [Jx] (ha : PE2 X a ta ta2) (hb : PE2 X b tb tb2) : PE2 X (.BinOp a .Pow b pos) (tOp rvPow ta tb) (dOp dPow ta2 tb2) := e_op op_pow rr_I ha hb
theorem e_shl [Jx] (ha : PE2 X a ta ta2) (hb : PE2 X b tb tb2) : PE2 X (.BinOp a .LShift b pos) (tOp rvShl ta tb) (dOp dShl ta2 tb2) := e_op op_shl rr_I ha hb
theorem e_shr [Jx] (ha : PE2 X a ta ta2) (hb : PE2 X b tb tb2) : PE2 X (.BinOp a .RShift b pos) (tOp rvShr ta tb) (dOp dShr ta2 tb2) := e_op op_shr rr_I ha hb
theorem e_bitand [Jx] (ha : PE2 X a ta ta2) (hb : PE2 X b tb tb2) : PE2 X (.BinOp a .BitAnd b pos) (tOp rvBitAnd ta tb) (dOp dBitAnd ta2 tb2) := e_op op_and rr_I0 ha hb
theorem e_bitor [Jx] (ha : PE2 X a ta ta2) (hb : PE2 X b tb tb2) : PE2 X (.BinOp a .BitOr b pos) (tOp rvBitOr ta tb) (dOp dBitOr ta2 tb2) := e_op op_or rr_I0 ha hb
theorem e_bitxor [Jx] (ha : PE2 X a ta ta2) (hb : PE2 X b tb tb2) : PE2 X (.BinOp a .BitXor b pos) (tOp rvBitXor ta tb) (dOp dBitXor ta2 tb2) := e_op op_xor rr_I0 ha hb
theorem w_sub {i j : Int} {μ : Mu} {Q : DK} (q : Q (.int (i - j)) μ) : dSub (.int i) (.int j) μ Q := ⟨i, j, rfl, rfl, q⟩
theorem w_mul {i j : Int} {μ : Mu} {Q : DK} (c : CMul i j) (q : Q (.int (i * j)) μ) : dMul (.int i) (.int j) μ Q := ⟨i, j, rfl, rfl, c, q⟩
theorem w_mulW {i j : Int} {μ : Mu} {Q : DK} (c : CMulW i j) (q : Q (.int (i * j)) μ) : dMulW (.int i) (.int j) μ Q := ⟨i, j, rfl, rfl, c, q⟩
theorem w_mod {i j : Int} {μ : Mu} {Q : DK} (c : 0 < j) (q : Q (.int (i % j)) μ) : dMod (.int i) (.int j) μ Q := ⟨i, j, rfl, rfl, c, q⟩
theorem w_fdiv {i j : Int} {μ : Mu} {Q : DK} (c : CDivW i j) (q : Q (.int (i / j)) μ) : dFdiv (.int i) (.int j) μ Q := ⟨i, j, rfl, rfl, c, q⟩
theorem w_pow {i j : Int} {μ : Mu} {Q : DK} (c : CPow i j) (q : Q (.int (i ^ j.toNat)) μ) : dPow (.int i) (.int j) μ Q := ⟨i, j, rfl, rfl, c, q⟩
theorem w_shl {i j : Int} {μ : Mu} {Q : DK} (c : CPow i j) (q : Q (.int (i * 2 ^ j.toNat)) μ) : dShl (.int i) (.int j) μ Q := ⟨i, j, rfl, rfl, c, q⟩
theorem w_shr {i j : Int} {μ : Mu} {Q : DK} (c : 0 ≤ j) (q : Q (.int (i / 2 ^ j.toNat)) μ) : dShr (.int i) (.int j) μ Q := ⟨i, j, rfl, rfl, c, q⟩
theorem w_bitand {i j : Int} {μ : Mu} {Q : DK} (q : Q (.int (Builtin.bitAnd i j)) μ) : dBitAnd (.int i) (.int j) μ Q := ⟨i, j, rfl, rfl, q⟩
theorem w_bitor {i j : Int} {μ : Mu} {Q : DK} (q : Q (.int (Builtin.bitOr i j)) μ) : dBitOr (.int i) (.int j) μ Q := ⟨i, j, rfl, rfl, q⟩
theorem w_bitxor {i j : Int} {μ : Mu} {Q : DK} (q : Q (.int (Builtin.bitXor i j)) μ) : dBitXor (.int i) (.int j) μ Q := ⟨i, j, rfl, rfl, q⟩
def dNeg : DR1 := fun x μ Q => ∃ i, x = .int i ∧ Q (.int (-i)) μ
theorem w_neg {i : Int} {μ : Mu} {Q : DK} (q : Q (.int (-i)) μ) : dNeg (.int i) μ Q := ⟨i, rfl, q⟩
theorem e_neg [Jx] (ha : PE2 X a ta ta2) : PE2 X (.UnaryOp .USub a pos) (tUn (rU fun i => .int (-i)) ta) (dUn dNeg ta2) := e_un un_neg (fun x μ Q2 q I H vx hA rx Q k => by
  obtain ⟨i, rfl, q⟩ := q
  exact ⟨i, rx, k _ μ _ I H q hA Kp.refl rfl⟩) ha
/-! comparisons of ints -/
def dLt : DR2 := dI0 fun i j => .bl (decide (i < j))
def dLe : DR2 := dI0 fun i j => .bl (decide (i ≤ j))
def dGt : DR2 := dI0 fun i j => .bl (decide (j < i))
def dGe : DR2 := dI0 fun i j => .bl (decide (j ≤ i))
theorem w_lt {i j : Int} {μ : Mu} {Q : DK} (q : Q (.bl (decide (i < j))) μ) : dLt (.int i) (.int j) μ Q := ⟨i, j, rfl, rfl, q⟩
theorem w_le {i j : Int} {μ : Mu} {Q : DK} (q : Q (.bl (decide (i ≤ j))) μ) : dLe (.int i) (.int j) μ Q := ⟨i, j, rfl, rfl, q⟩
theorem w_gt {i j : Int} {μ : Mu} {Q : DK} (q : Q (.bl (decide (j < i))) μ) : dGt (.int i) (.int j) μ Q := ⟨i, j, rfl, rfl, q⟩
theorem w_ge {i j : Int} {μ : Mu} {Q : DK} (q : Q (.bl (decide (j ≤ i))) μ) : dGe (.int i) (.int j) μ Q := ⟨i, j, rfl, rfl, q⟩
theorem e_lt [Jx] (ha : PE2 X a ta ta2) (hb : PE2 X b tb tb2) : PE2 X (.Compare a [.Lt] [b] pos) (tOp rvLt ta tb) (dOp dLt ta2 tb2) := e_cmp op_lt rr_I0 ha hb (nomark _)
theorem e_le [Jx] (ha : PE2 X a ta ta2) (hb : PE2 X b tb tb2) : PE2 X (.Compare a [.LtE] [b] pos) (tOp rvLe ta tb) (dOp dLe ta2 tb2) := e_cmp op_le rr_I0 ha hb (nomark _)
theorem e_gt [Jx] (ha : PE2 X a ta ta2) (hb : PE2 X b tb tb2) : PE2 X (.Compare a [.Gt] [b] pos) (tOp rvGt ta tb) (dOp dGt ta2 tb2) := e_cmp op_gt rr_I0 ha hb (nomark _)
theorem e_ge [Jx] (ha : PE2 X a ta ta2) (hb : PE2 X b tb tb2) : PE2 X (.Compare a [.GtE] [b] pos) (tOp rvGe ta tb) (dOp dGe ta2 tb2) := e_cmp op_ge rr_I0 ha hb (nomark _)
end
end Y

set_option Elab.async false
set_option linter.all false
set_option maxRecDepth 100000
set_option maxHeartbeats 4000000
namespace Y
open PySem PySem.Spec PyProof.Rows L2
section
variable {X : Cx} {K : PySem.W.Frag} {a b c e o : Expr} {es rest : List Expr} {ta tb tc te to : TE} {ta2 tb2 tc2 te2 to2 : TE2} {pos apos : Pos} {tt tu : TT} {tt2 tu2 : TT2} {tl : TA} {tl2 : TA2}
variable {ρ : Env2} {μ : Mu} {Q : DK}

/-! ### sums -/
def dNewL (ds : List D) (μ : Mu) (Q : DK) : Prop := ds.length ≤ sizeLine ∧ ∀ p, μ p = none → Q (.adr p) (mup μ p (.lst ds))
theorem w_newL {ds : List D} (z : ds.length ≤ sizeLine) (q : ∀ p, μ p = none → Q (.adr p) (mup μ p (.lst ds))) : dNewL ds μ Q := ⟨z, q⟩
theorem go_newL [Jx] {I H : Hp} {ds : List D} {vs : List V} {Q2 : DK} {Q : VK} (q : dNewL ds μ Q2) (hA : At K μ I H) (r : RpA K I ds vs) (k : Go K I μ H Q2 Q) : ∀ p, H p = none → Q (.ref p) (upd H p (.lst vs)) := fun p hp =>
  k _ _ _ _ _ (q.2 p (hA.noM hp)) (hA.got hp ⟨vs, rfl, r⟩) (Kp.got hp) rfl
theorem go_newT [Jx] {I H : Hp} {ds : List D} {vs : List V} {Q2 : DK} {Q : VK} (q : Q2 (.tup ds) μ) (hA : At K μ I H) (r : RpA K I ds vs) (k : Go K I μ H Q2 Q) : ∀ p, H p = none → Q (.ref p) (upd H p (.tup vs)) := fun p hp =>
  k _ _ _ _ _ q (hA.laid hp) (Kp.laid hp (hA.noI hp)) ⟨p, vs, rfl, SqT.of upd_same, r.mono (Exx.new (hA.noI hp))⟩
abbrev rvAddI : R2 := rI0 fun i j => .int (i + j)
abbrev rvAddS : R2 := fun x y H Q => ∃ i j, x = .str i ∧ y = .str j ∧ i.length + j.length ≤ sizeLine ∧ Q (.str (i ++ j)) H
abbrev rvAdd (K : PySem.W.Frag) : R2 := rOr rvAddI (rOr rvAddS (rOr rCat (rCatA K)))
def dAdd : DR2 := fun x y μ Q => (∃ i j, x = .int i ∧ y = .int j ∧ Q (.int (i + j)) μ) ∨ (∃ i j, x = .str i ∧ y = .str j ∧ i.length + j.length ≤ sizeLine ∧ Q (.str (i ++ j)) μ) ∨
  (∃ xs ys, asL μ x = some xs ∧ asL μ y = some ys ∧ dNewL (xs ++ ys) μ Q) ∨ (∃ xs ys, x = .tup xs ∧ y = .tup ys ∧ xs.length + ys.length ≤ sizeLine ∧ Q (.tup (xs ++ ys)) μ)
theorem rr_add [Jx] : RR K (rvAdd K) dAdd := fun x y μ Q2 q I H vx vy hA rx ry Q k => by
  rcases q with ⟨i, j, rfl, rfl, q⟩ | ⟨i, j, rfl, rfl, z, q⟩ | ⟨xs, ys, e1, e2, q⟩ | ⟨xs, ys, rfl, rfl, z, q⟩
  · exact .inl ⟨i, j, rx, ry, k _ μ _ I H q hA Kp.refl rfl⟩
  · exact .inr (.inl ⟨i, j, rx, ry, z, k _ μ _ I H q hA Kp.refl rfl⟩)
  · obtain ⟨p, vs, e3, h3, r3⟩ := asL_at hA rx e1
    obtain ⟨p', vs', e4, h4, r4⟩ := asL_at hA ry e2
    refine .inr (.inr (.inl ⟨p, p', vs, vs', e3, e4, h3, h4, ?_, go_newL q hA (r3.append r4) k⟩))
    rw [r3.length, r4.length, ← List.length_append]; exact q.1
  · obtain ⟨p, vs, e3, h3, r3⟩ := rx
    obtain ⟨p', vs', e4, h4, r4⟩ := ry
    have hs : Exx I H := hA.sub
    refine .inr (.inr (.inr ⟨p, p', vs, vs', e3, e4, hs.sqt h3, hs.sqt h4, by rw [r3.length, r4.length]; exact z, fun z => ?_, fun _ z => ?_, fun _ _ => go_newT q hA (r3.append r4) k⟩))
    · have e : xs = [] := List.eq_nil_of_length_eq_zero (by rw [← r3.length, z]; rfl)
      subst e
      exact k _ _ _ _ _ q hA Kp.refl ⟨p', vs', rfl, h4, r4⟩
    · have e : ys = [] := List.eq_nil_of_length_eq_zero (by rw [← r4.length, z]; rfl)
      subst e
      rw [List.append_nil] at q
      exact k _ _ _ _ _ q hA Kp.refl ⟨p, vs, rfl, h3, r3⟩
theorem e_add [Jx] (ha : PE2 X a ta ta2) (hb : PE2 X b tb tb2) : PE2 X (.BinOp a .Add b pos) (tOp (rvAdd X.K) ta tb) (dOp dAdd ta2 tb2) := e_op (opOr op_add (opOr op_add_str (opOr op_cat op_catA))) rr_add ha hb
theorem w_addI {i j : Int} (q : Q (.int (i + j)) μ) : dAdd (.int i) (.int j) μ Q := .inl ⟨i, j, rfl, rfl, q⟩
theorem w_addS {i j : Str} (z : i.length + j.length ≤ sizeLine) (q : Q (.str (i ++ j)) μ) : dAdd (.str i) (.str j) μ Q := .inr (.inl ⟨i, j, rfl, rfl, z, q⟩)
theorem w_addL {x y : D} {xs ys : List D} (e1 : asL μ x = some xs) (e2 : asL μ y = some ys) (q : dNewL (xs ++ ys) μ Q) : dAdd x y μ Q := .inr (.inr (.inl ⟨xs, ys, e1, e2, q⟩))
theorem w_addT {xs ys : List D} (z : xs.length + ys.length ≤ sizeLine) (q : Q (.tup (xs ++ ys)) μ) : dAdd (.tup xs) (.tup ys) μ Q := .inr (.inr (.inr ⟨xs, ys, rfl, rfl, z, q⟩))
/-- a list times an int -/
def dRep : DR2 := fun x y μ Q => ∃ xs k, asL μ x = some xs ∧ y = .int k ∧ -(2 ^ 63) ≤ k ∧ k < 2 ^ 63 ∧ dNewL (List.replicate k.toNat xs).flatten μ Q
theorem RpA.rep {I : Hp} {ds : List D} {vs : List V} (r : RpA K I ds vs) : ∀ n : Nat, RpA K I (List.replicate n ds).flatten (List.replicate n vs).flatten
  | 0 => rfl
  | n + 1 => by
    rw [List.replicate_succ, List.replicate_succ, List.flatten_cons, List.flatten_cons]
    exact r.append (RpA.rep r n)
theorem rr_rep [Jx] : RR K rRep dRep := fun x y μ Q2 q I H vx vy hA rx ry Q k => by
  obtain ⟨xs, n, e1, rfl, h1, h2, q⟩ := q
  obtain ⟨p, vs, e3, h3, r3⟩ := asL_at hA rx e1
  refine ⟨p, n, vs, e3, ry, h3, h1, h2, ?_, go_newL q hA (r3.rep _) k⟩
  have z := q.1
  rw [← (r3.rep n.toNat).length] at z
  have e : (List.replicate n.toNat vs).flatten.length = n.toNat * vs.length := by
    induction n.toNat with
    | zero => simp
    | succ m ih => rw [List.replicate_succ, List.flatten_cons, List.length_append, ih, Nat.succ_mul, Nat.add_comm]
  rw [e, Nat.mul_comm] at z
  exact z
theorem e_rep [Jx] (ha : PE2 X a ta ta2) (hb : PE2 X b tb tb2) : PE2 X (.BinOp a .Mult b pos) (tOp rRep ta tb) (dOp dRep ta2 tb2) := e_op op_rep rr_rep ha hb
theorem w_rep {x : D} {xs : List D} {k : Int} (e1 : asL μ x = some xs) (h1 : -(2 ^ 63) ≤ k) (h2 : k < 2 ^ 63) (q : dNewL (List.replicate k.toNat xs).flatten μ Q) : dRep x (.int k) μ Q := ⟨xs, k, e1, rfl, h1, h2, q⟩

/-! ### equality -/
mutual
def D.py : D → PyData
  | .non => .none
  | .bl b => .bool b
  | .int i => .int i
  | .str x => .str x
  | .tup ds => .tuple (D.pyA ds)
  | .lst ds => .list (D.pyA ds)
  | .ty _ => .none
  | .adr _ => .none
  | .obj _ _ _ => .none
  | .scr ns => .list (ns.map PyData.int)
def D.pyA : List D → List PyData
  | [] => []
  | d :: ds => D.py d :: D.pyA ds
end
mutual
/-- data of no more than so many levels -/
def D.shp : Nat → D → Bool
  | _, .non => true
  | _, .bl _ => true
  | _, .int _ => true
  | _, .str x => PyData.strOk x
  | n + 1, .tup ds => D.shpA n ds
  | n + 1, .lst ds => D.shpA n ds
  | _, _ => false
def D.shpA : Nat → List D → Bool
  | _, [] => true
  | n, d :: ds => D.shp n d && D.shpA n ds
end
mutual
theorem shp_py : ∀ {n : Nat} {d : D}, D.shp n d = true → d.py.canLay0 = true ∧ d.py.depth ≤ n
  | _, .non, _ => ⟨rfl, Nat.zero_le _⟩
  | _, .bl _, _ => ⟨rfl, Nat.zero_le _⟩
  | _, .int _, _ => ⟨rfl, Nat.zero_le _⟩
  | n, .str x, h => ⟨by cases n <;> exact h, Nat.zero_le _⟩
  | n + 1, .tup ds, h => let ⟨p, q⟩ := shpA_py (n := n) (ds := ds) h; ⟨p, Nat.succ_le_succ q⟩
  | n + 1, .lst ds, h => let ⟨p, q⟩ := shpA_py (n := n) (ds := ds) h; ⟨p, Nat.succ_le_succ q⟩
  | 0, .tup _, h => by cases h
  | 0, .lst _, h => by cases h
  | n, .ty _, h => by cases n <;> cases h
  | n, .adr _, h => by cases n <;> cases h
  | n, .obj _ _ _, h => by cases n <;> cases h
  | n, .scr _, h => by cases n <;> cases h
theorem shpA_py : ∀ {n : Nat} {ds : List D}, D.shpA n ds = true → PyData.canLayAll0 (D.pyA ds) = true ∧ PyData.depthAll (D.pyA ds) ≤ n
  | _, [], _ => ⟨rfl, Nat.zero_le _⟩
  | n, d :: ds, h => by
    unfold D.shpA at h
    rw [Bool.and_eq_true] at h
    obtain ⟨h1, h2⟩ := h
    obtain ⟨p1, q1⟩ := shp_py h1
    obtain ⟨p2, q2⟩ := shpA_py h2
    refine ⟨?_, Nat.max_le.mpr ⟨q1, q2⟩⟩
    show (PyData.canLay0 (D.py d) && PyData.canLayAll0 (D.pyA ds)) = true
    rw [p1, p2]; rfl
end
mutual
theorem shp_dp {I H : Hp} (hs : Exx I H) : ∀ {n : Nat} {d : D} {v : V}, D.shp n d = true → Rp K I d v → Dp K H v d.py
  | _, .non, _, _, r => by cases (show _ = _ from r); exact .non
  | _, .bl b, _, _, r => by cases (show _ = _ from r); exact .bl b
  | _, .int i, _, _, r => by cases (show _ = _ from r); exact .int i
  | _, .str x, _, _, r => by cases (show _ = _ from r); exact .str x
  | n + 1, .tup ds, _, h, r => by
    obtain ⟨p, vs, rfl, h1, h2⟩ := r
    exact .tup (hs.sqt h1) (shpA_dp hs (n := n) h h2)
  | n + 1, .lst ds, _, h, r => by
    obtain ⟨p, vs, rfl, h1, h2⟩ := r
    exact .lst (SqL.of (hs _ _ h1)) (shpA_dp hs (n := n) h h2)
  | 0, .tup _, _, h, _ => by cases h
  | 0, .lst _, _, h, _ => by cases h
  | n, .ty _, _, h, _ => by cases n <;> cases h
  | n, .adr _, _, h, _ => by cases n <;> cases h
  | n, .obj _ _ _, _, h, _ => by cases n <;> cases h
  | n, .scr _, _, h, _ => by cases n <;> cases h
theorem shpA_dp {I H : Hp} (hs : Exx I H) : ∀ {n : Nat} {ds : List D} {vs : List V}, D.shpA n ds = true → RpA K I ds vs → DpAll K H vs (D.pyA ds)
  | _, [], _, _, r => by cases (show _ = _ from r); exact .nil
  | n, d :: ds, _, h, r => by
    unfold D.shpA at h
    rw [Bool.and_eq_true] at h
    obtain ⟨v, q, rfl, r1, r2⟩ := r
    exact .cons (shp_dp hs h.1 r1) (shpA_dp hs h.2 r2)
end
/-- an owned list of data, as it is -/
def rsv (μ : Mu) : D → D
  | .adr a => match μ a with
    | some (.lst ds) => .lst ds
    | _ => .adr a
  | d => d
theorem rsv_dp [Jx] {I H : Hp} {n : Nat} {d : D} {v : V} (hA : At K μ I H) (h : D.shp n (rsv μ d) = true) (r : Rp K I d v) : Dp K H v (rsv μ d).py := by
  cases d with
  | adr p =>
    cases q : μ p with
    | none => simp only [rsv, q] at h; cases n <;> cases h
    | some m =>
      cases m with
      | lst ds =>
        simp only [rsv, q] at h ⊢
        obtain ⟨_, ho, h1, vs, rfl, h2⟩ := hA.own p _ q
        cases (show _ = _ from r)
        cases n with
        | zero => cases h
        | succ n => exact .lst (SqL.of h1) (shpA_dp hA.sub (n := n) h h2)
      | dk _ => simp only [rsv, q] at h; cases n <;> cases h
      | ins _ _ => simp only [rsv, q] at h; cases n <;> cases h
  | _ => exact shp_dp hA.sub h r
/-- scalars -/
def eqS : D → D → Option Bool
  | .non, .non => some true | .non, .int _ => some false | .int _, .non => some false | .non, .bl _ => some false | .bl _, .non => some false | .non, .str _ => some false | .str _, .non => some false
  | .int i, .int j => some (decide (i = j)) | .bl a, .bl b => some (decide (a = b)) | .str x, .str y => some (decide (x = y))
  | .int _, .str _ => some false | .str _, .int _ => some false | .bl _, .str _ => some false | .str _, .bl _ => some false
  | _, _ => none
theorem eqS_ok {I : Hp} {x y : D} {vx vy : V} {b : Bool} (h : eqS x y = some b) (rx : Rp K I x vx) (ry : Rp K I y vy) : scal vx vy = true ∧ decide (vx = vy) = b := by
  cases x with
  | non => cases (show vx = _ from rx); cases y <;> first | (cases h; done) | (cases (show vy = _ from ry); cases h; exact ⟨rfl, by first | rfl | simp⟩)
  | bl _ => cases (show vx = _ from rx); cases y <;> first | (cases h; done) | (cases (show vy = _ from ry); cases h; exact ⟨rfl, by first | rfl | simp⟩)
  | int _ => cases (show vx = _ from rx); cases y <;> first | (cases h; done) | (cases (show vy = _ from ry); cases h; exact ⟨rfl, by first | rfl | simp⟩)
  | str _ => cases (show vx = _ from rx); cases y <;> first | (cases h; done) | (cases (show vy = _ from ry); cases h; exact ⟨rfl, by first | rfl | simp⟩)
  | ty _ => cases y <;> cases h
  | adr _ => cases y <;> cases h
  | tup _ => cases y <;> cases h
  | lst _ => cases y <;> cases h
  | obj _ _ _ => cases y <;> cases h
  | scr _ => cases y <;> cases h
/-- what == tells -/
def EqR (μ : Mu) (x y : D) (b : Bool) : Prop := eqS x y = some b ∨ (D.shp 64 (rsv μ x) = true ∧ D.shp 64 (rsv μ y) = true ∧ PyData.eqv (rsv μ x).py (rsv μ y).py = b)
def dEq : DR2 := fun x y μ Q => ∃ b, EqR μ x y b ∧ Q (.bl b) μ
def dNe : DR2 := fun x y μ Q => ∃ b, EqR μ x y b ∧ Q (.bl (!b)) μ
theorem w_eq {x y : D} {b : Bool} (h : EqR μ x y b) (q : Q (.bl b) μ) : dEq x y μ Q := ⟨b, h, q⟩
theorem w_ne {x y : D} {b : Bool} (h : EqR μ x y b) (q : Q (.bl (!b)) μ) : dNe x y μ Q := ⟨b, h, q⟩
theorem w_eqS {x y : D} {b : Bool} (h : eqS x y = some b) (q : Q (.bl b) μ) : dEq x y μ Q := ⟨b, .inl h, q⟩
theorem w_neS {x y : D} {b : Bool} (h : eqS x y = some b) (q : Q (.bl (!b)) μ) : dNe x y μ Q := ⟨b, .inl h, q⟩
theorem w_eqD {x y : D} (h1 : D.shp 64 (rsv μ x) = true) (h2 : D.shp 64 (rsv μ y) = true) (q : Q (.bl (PyData.eqv (rsv μ x).py (rsv μ y).py)) μ) : dEq x y μ Q := ⟨_, .inr ⟨h1, h2, rfl⟩, q⟩
theorem w_neD {x y : D} (h1 : D.shp 64 (rsv μ x) = true) (h2 : D.shp 64 (rsv μ y) = true) (q : Q (.bl (!PyData.eqv (rsv μ x).py (rsv μ y).py)) μ) : dNe x y μ Q := ⟨_, .inr ⟨h1, h2, rfl⟩, q⟩
theorem shaped_of {n : Nat} {d : D} (hn : n ≤ 64) (h : D.shp n d = true) : SeqAt.shaped d.py = true := by
  obtain ⟨h1, h2⟩ := shp_py h
  unfold SeqAt.shaped
  rw [h1, decide_eq_true (Nat.le_trans h2 hn)]; rfl
theorem rr_eq [Jx] : RR K (rOr rEq (rEqD K)) dEq := fun x y μ Q2 q I H vx vy hA rx ry Q k => by
  obtain ⟨b, h, q⟩ := q
  rcases h with h | ⟨h1, h2, h3⟩
  · obtain ⟨s, e⟩ := eqS_ok h rx ry
    exact .inl ⟨s, by rw [e]; exact k _ _ _ _ _ q hA Kp.refl rfl⟩
  · exact .inr ⟨_, _, rsv_dp hA h1 rx, rsv_dp hA h2 ry, shaped_of (Nat.le_refl _) h1, shaped_of (Nat.le_refl _) h2, by rw [h3]; exact k _ _ _ _ _ q hA Kp.refl rfl⟩
theorem rr_ne [Jx] : RR K (rOr rNe (rNeD K)) dNe := fun x y μ Q2 q I H vx vy hA rx ry Q k => by
  obtain ⟨b, h, q⟩ := q
  rcases h with h | ⟨h1, h2, h3⟩
  · obtain ⟨s, e⟩ := eqS_ok h rx ry
    exact .inl ⟨s, by rw [e]; exact k _ _ _ _ _ q hA Kp.refl rfl⟩
  · exact .inr ⟨_, _, rsv_dp hA h1 rx, rsv_dp hA h2 ry, shaped_of (Nat.le_refl _) h1, shaped_of (Nat.le_refl _) h2, by rw [h3]; exact k _ _ _ _ _ q hA Kp.refl rfl⟩
theorem e_eq [Jx] {k : Nat} (hr : Room k X.A) (ha : PE2 X a ta ta2) (hb : PE2 X b tb tb2) : PE2 X (.Compare a [.Eq] [b] pos) (tOp (rOr rEq (rEqD X.K)) ta tb) (dOp dEq ta2 tb2) := e_cmp (opOr op_eq (op_eqD hr.units)) rr_eq ha hb (nomark _)
theorem e_ne [Jx] {k : Nat} (hr : Room k X.A) (ha : PE2 X a ta ta2) (hb : PE2 X b tb tb2) : PE2 X (.Compare a [.NotEq] [b] pos) (tOp (rOr rNe (rNeD X.K)) ta tb) (dOp dNe ta2 tb2) := e_cmp (opOr op_ne (op_neD hr.units)) rr_ne ha hb (nomark _)

/-! ### is -/
def dIsN : DR2 := fun x y μ Q => y = .non ∧ ((x = .non ∧ Q (.bl true) μ) ∨ (x ≠ .non ∧ Q (.bl false) μ))
def dNotN : DR2 := fun x y μ Q => y = .non ∧ ((x = .non ∧ Q (.bl false) μ) ∨ (x ≠ .non ∧ Q (.bl true) μ))
theorem w_isN1 (q : Q (.bl true) μ) : dIsN .non .non μ Q := ⟨rfl, .inl ⟨rfl, q⟩⟩
theorem w_isN0 {x : D} (h : x ≠ .non) (q : Q (.bl false) μ) : dIsN x .non μ Q := ⟨rfl, .inr ⟨h, q⟩⟩
theorem w_notN1 (q : Q (.bl false) μ) : dNotN .non .non μ Q := ⟨rfl, .inl ⟨rfl, q⟩⟩
theorem w_notN0 {x : D} (h : x ≠ .non) (q : Q (.bl true) μ) : dNotN x .non μ Q := ⟨rfl, .inr ⟨h, q⟩⟩
theorem rp_non {I : Hp} {x : D} {v : V} (r : Rp K I x v) (h : x ≠ .non) : v ≠ .non := by
  cases x with
  | non => exact absurd rfl h
  | bl _ => cases (show v = _ from r); exact fun z => nomatch z
  | int _ => cases (show v = _ from r); exact fun z => nomatch z
  | str _ => cases (show v = _ from r); exact fun z => nomatch z
  | ty _ => cases (show v = _ from r); exact fun z => nomatch z
  | adr _ => cases (show v = _ from r); exact fun z => nomatch z
  | tup _ => obtain ⟨_, _, rfl, _⟩ := r; exact fun z => nomatch z
  | lst _ => obtain ⟨_, _, rfl, _⟩ := r; exact fun z => nomatch z
  | obj _ _ _ => obtain ⟨_, _, _, rfl, _⟩ := r; exact fun z => nomatch z
  | scr _ => obtain ⟨_, rfl, _⟩ := r; exact fun z => nomatch z
abbrev rvIsN : R2 := fun x y H Q => y = .non ∧ Q (.bl (decide (x = .non))) H
abbrev rvNotN : R2 := fun x y H Q => y = .non ∧ Q (.bl (!decide (x = .non))) H
theorem rr_isN [Jx] : RR K rvIsN dIsN := fun x y μ Q2 q I H vx vy hA rx ry Q k => by
  obtain ⟨rfl, q⟩ := q
  refine ⟨ry, ?_⟩
  rcases q with ⟨rfl, q⟩ | ⟨h, q⟩
  · cases (show vx = _ from rx); exact k _ _ _ _ _ q hA Kp.refl rfl
  · rw [decide_eq_false (rp_non rx h)]; exact k _ _ _ _ _ q hA Kp.refl rfl
theorem rr_notN [Jx] : RR K rvNotN dNotN := fun x y μ Q2 q I H vx vy hA rx ry Q k => by
  obtain ⟨rfl, q⟩ := q
  refine ⟨ry, ?_⟩
  rcases q with ⟨rfl, q⟩ | ⟨h, q⟩
  · cases (show vx = _ from rx); exact k _ _ _ _ _ q hA Kp.refl rfl
  · rw [decide_eq_false (rp_non rx h)]; exact k _ _ _ _ _ q hA Kp.refl rfl
theorem e_isN [Jx] (ha : PE2 X a ta ta2) (hb : PE2 X b tb tb2) : PE2 X (.Compare a [.Is] [b] pos) (tOp rvIsN ta tb) (dOp dIsN ta2 tb2) := e_cmp op_isN rr_isN ha hb (nomark _)
theorem e_notN [Jx] (ha : PE2 X a ta ta2) (hb : PE2 X b tb tb2) : PE2 X (.Compare a [.IsNot] [b] pos) (tOp rvNotN ta tb) (dOp dNotN ta2 tb2) := e_cmp op_notN rr_notN ha hb (nomark _)
/-- is True, is False, of truths -/
def dIsB : DR2 := fun x y μ Q => ∃ a b, x = .bl a ∧ y = .bl b ∧ Q (.bl (decide (a = b))) μ
def dNotB : DR2 := fun x y μ Q => ∃ a b, x = .bl a ∧ y = .bl b ∧ Q (.bl (!decide (a = b))) μ
theorem w_isB {a b : Bool} (q : Q (.bl (decide (a = b))) μ) : dIsB (.bl a) (.bl b) μ Q := ⟨a, b, rfl, rfl, q⟩
theorem w_notB {a b : Bool} (q : Q (.bl (!decide (a = b))) μ) : dNotB (.bl a) (.bl b) μ Q := ⟨a, b, rfl, rfl, q⟩
theorem e_isB [Jx] (ha : PE2 X a ta ta2) (hb : PE2 X b tb tb2) : PE2 X (.Compare a [.Is] [b] pos) (tOp rIsB ta tb) (dOp dIsB ta2 tb2) := e_cmp op_isBl (fun x y μ Q2 q I H vx vy hA rx ry Q k => by
  obtain ⟨a, b, rfl, rfl, q⟩ := q
  exact ⟨a, b, rx, ry, k _ _ _ _ _ q hA Kp.refl rfl⟩) ha hb (nomark _)
theorem e_notB [Jx] (ha : PE2 X a ta ta2) (hb : PE2 X b tb tb2) : PE2 X (.Compare a [.IsNot] [b] pos) (tOp rNotB ta tb) (dOp dNotB ta2 tb2) := e_cmp op_notBl (fun x y μ Q2 q I H vx vy hA rx ry Q k => by
  obtain ⟨a, b, rfl, rfl, q⟩ := q
  exact ⟨a, b, rx, ry, k _ _ _ _ _ q hA Kp.refl rfl⟩) ha hb (nomark _)

/-! ### in -/
def D.flat : D → Bool
  | .non => true | .bl _ => true | .int _ => true | .str _ => true | _ => false
def D.v : D → V
  | .bl b => .bl b | .int i => .int i | .str x => .str x | _ => .non
theorem flat_v {I : Hp} {d : D} {v : V} (h : d.flat = true) (r : Rp K I d v) : v = d.v ∧ flatV v = true := by
  cases d with
  | non => cases (show v = _ from r); exact ⟨rfl, rfl⟩
  | bl _ => cases (show v = _ from r); exact ⟨rfl, rfl⟩
  | int _ => cases (show v = _ from r); exact ⟨rfl, rfl⟩
  | str _ => cases (show v = _ from r); exact ⟨rfl, rfl⟩
  | ty _ => cases h
  | adr _ => cases h
  | tup _ => cases h
  | lst _ => cases h
  | obj _ _ _ => cases h
  | scr _ => cases h
theorem flat_vs {I : Hp} : ∀ {ds : List D} {vs : List V}, ds.all D.flat = true → RpA K I ds vs → vs = ds.map D.v ∧ vs.all flatV = true
  | [], _, _, r => by cases (show _ = _ from r); exact ⟨rfl, rfl⟩
  | d :: ds, _, h, r => by
    obtain ⟨v, w, rfl, r1, r2⟩ := r
    rw [List.all_cons, Bool.and_eq_true] at h
    obtain ⟨e1, f1⟩ := flat_v h.1 r1
    obtain ⟨e2, f2⟩ := flat_vs h.2 r2
    exact ⟨by rw [e1, e2]; rfl, by rw [List.all_cons, f1, f2]; rfl⟩
def D.inn (x : D) (ds : List D) : Bool := inV x.v (ds.map D.v)
abbrev rvInS : R2 := fun x y H Q => ∃ (c : Nat) (z : Str), x = .str ⟨#[c]⟩ ∧ y = .str z ∧ Q (.bl (decide (c ∈ z.cps.toList))) H
abbrev rvNotInS : R2 := fun x y H Q => ∃ (c : Nat) (z : Str), x = .str ⟨#[c]⟩ ∧ y = .str z ∧ Q (.bl (!decide (c ∈ z.cps.toList))) H
abbrev rvInSS : R2 := fun x y H Q => ∃ i j, x = .str i ∧ y = .str j ∧ Q (.bl (!(Builtin.Str.occurrences j i 0 j.length 1).isEmpty)) H
abbrev rvNotInSS : R2 := fun x y H Q => ∃ i j, x = .str i ∧ y = .str j ∧ Q (.bl (!(!(Builtin.Str.occurrences j i 0 j.length 1).isEmpty))) H
/-- what in tells -/
def InR (μ : Mu) (x y : D) (k : Bool) : Prop := (∃ (c : Nat) (z : Str), x = .str ⟨#[c]⟩ ∧ y = .str z ∧ decide (c ∈ z.cps.toList) = k) ∨ (∃ i j, x = .str i ∧ y = .str j ∧ (!(Builtin.Str.occurrences j i 0 j.length 1).isEmpty) = k) ∨
  ∃ ds, asS μ y = some ds ∧ x.flat = true ∧ ds.all D.flat = true ∧ x.inn ds = k
def dIn : DR2 := fun x y μ Q => ∃ k, InR μ x y k ∧ Q (.bl k) μ
def dNotIn : DR2 := fun x y μ Q => ∃ k, InR μ x y k ∧ Q (.bl (!k)) μ
theorem rr_in [Jx] : RR K (rOr rvInS (rOr rvInSS (rIn K false))) dIn := fun x y μ Q2 q I H vx vy hA rx ry Q k => by
  obtain ⟨b, h, q⟩ := q
  have fin := k _ _ _ _ _ q hA Kp.refl rfl
  rcases h with ⟨c, z, rfl, rfl, h⟩ | ⟨i, j, rfl, rfl, h⟩ | ⟨ds, h1, h2, h3, h4⟩
  · exact .inl ⟨c, z, rx, ry, by rw [h]; exact fin⟩
  · exact .inr (.inl ⟨i, j, rx, ry, by rw [h]; exact fin⟩)
  · obtain ⟨p, vs, e, hs, r⟩ := asS_at hA ry h1
    obtain ⟨e1, f1⟩ := flat_v h2 rx
    obtain ⟨e2, f2⟩ := flat_vs h3 r
    refine .inr (.inr ⟨p, vs, e, hs, f1, f2, ?_⟩)
    rw [if_neg Bool.false_ne_true, e1, e2]
    have h4' : inV x.v (ds.map D.v) = b := h4
    rw [h4']; exact fin
theorem rr_notIn [Jx] : RR K (rOr rvNotInS (rOr rvNotInSS (rIn K true))) dNotIn := fun x y μ Q2 q I H vx vy hA rx ry Q k => by
  obtain ⟨b, h, q⟩ := q
  have fin := k _ _ _ _ _ q hA Kp.refl rfl
  rcases h with ⟨c, z, rfl, rfl, h⟩ | ⟨i, j, rfl, rfl, h⟩ | ⟨ds, h1, h2, h3, h4⟩
  · exact .inl ⟨c, z, rx, ry, by rw [h]; exact fin⟩
  · exact .inr (.inl ⟨i, j, rx, ry, by rw [h]; exact fin⟩)
  · obtain ⟨p, vs, e, hs, r⟩ := asS_at hA ry h1
    obtain ⟨e1, f1⟩ := flat_v h2 rx
    obtain ⟨e2, f2⟩ := flat_vs h3 r
    refine .inr (.inr ⟨p, vs, e, hs, f1, f2, ?_⟩)
    rw [if_pos rfl, e1, e2]
    have h4' : inV x.v (ds.map D.v) = b := h4
    rw [h4']; exact fin
theorem e_in [Jx] (ha : PE2 X a ta ta2) (hb : PE2 X b tb tb2) (hm : behindInMarks .In b = false) : PE2 X (.Compare a [.In] [b] pos) (tOp (rOr rvInS (rOr rvInSS (rIn X.K false))) ta tb) (dOp dIn ta2 tb2) := e_cmp (opOr op_in_sign (opOr op_in_str op_in_seq)) rr_in ha hb hm
theorem e_notIn [Jx] (ha : PE2 X a ta ta2) (hb : PE2 X b tb tb2) (hm : behindInMarks .NotIn b = false) : PE2 X (.Compare a [.NotIn] [b] pos) (tOp (rOr rvNotInS (rOr rvNotInSS (rIn X.K true))) ta tb) (dOp dNotIn ta2 tb2) := e_cmp (opOr op_notIn_sign (opOr op_notin_str op_notIn_seq)) rr_notIn ha hb hm
theorem w_inC {c : Nat} {z : Str} (q : Q (.bl (decide (c ∈ z.cps.toList))) μ) : dIn (.str ⟨#[c]⟩) (.str z) μ Q := ⟨_, .inl ⟨c, z, rfl, rfl, rfl⟩, q⟩
theorem w_notInC {c : Nat} {z : Str} (q : Q (.bl (!decide (c ∈ z.cps.toList))) μ) : dNotIn (.str ⟨#[c]⟩) (.str z) μ Q := ⟨_, .inl ⟨c, z, rfl, rfl, rfl⟩, q⟩
theorem w_inS {x y : D} {ds : List D} (h1 : asS μ y = some ds) (h2 : x.flat = true) (h3 : ds.all D.flat = true) (q : Q (.bl (x.inn ds)) μ) : dIn x y μ Q := ⟨_, .inr (.inr ⟨ds, h1, h2, h3, rfl⟩), q⟩
theorem w_notInS {x y : D} {ds : List D} (h1 : asS μ y = some ds) (h2 : x.flat = true) (h3 : ds.all D.flat = true) (q : Q (.bl (!x.inn ds)) μ) : dNotIn x y μ Q := ⟨_, .inr (.inr ⟨ds, h1, h2, h3, rfl⟩), q⟩
end
end Y

set_option Elab.async false
set_option linter.all false
set_option maxRecDepth 100000
set_option maxHeartbeats 4000000
namespace Y
open PySem PySem.Spec PyProof.Rows L2
section
variable {X : Cx} {K : PySem.W.Frag} {a b c e o : Expr} {es rest : List Expr} {ta tb tc te to : TE} {ta2 tb2 tc2 te2 to2 : TE2} {pos apos : Pos} {tt tu : TT} {tt2 tu2 : TT2} {tl : TA} {tl2 : TA2}
variable {ρ : Env2} {μ : Mu} {Q : DK} {T F : Mu → Prop}

/-! ### tests -/
def dVal (t : TE2) : TT2 := fun ρ μ T F => t ρ μ fun d μ' => ∃ b, d = .bl b ∧ Br b (T μ') (F μ')
def dTail (T F : Mu → Prop) : DK := fun d μ' => ∃ b, d = .bl b ∧ Br b (T μ') (F μ')
theorem w_tail {b : Bool} (h : Br b (T μ) (F μ)) : dTail T F (.bl b) μ := ⟨b, rfl, h⟩
theorem w_val (h : te2 ρ μ (dTail T F)) : dVal te2 ρ μ T F := h
theorem re_val [Jx] {I H : Hp} {Q2 : Bool → Hp → Prop} {d : D} {v : V} (hA : At K μ I H) (r : Rp K I d v) (h : ∃ b, d = .bl b ∧ Br b (T μ) (F μ)) (g1 : GoU K I μ H T (Q2 true)) (g2 : GoU K I μ H F (Q2 false)) : ∃ k, v = .bl k ∧ Q2 k H := by
  obtain ⟨b, rfl, h⟩ := h
  refine ⟨b, r, ?_⟩
  cases b with
  | true => exact g1 μ I H (h.1 rfl) hA Kp.refl
  | false => exact g2 μ I H (h.2 rfl) hA Kp.refl
/-- a comparison, a call .. as a test -/
theorem t_cmp [Jx] {op : CmpOp} {r : R2} {r2 : DR2} (ho : OpR X (compareOp op) r) (hr : RR X.K r r2) (ha : PE2 X a ta ta2) (hb : PE2 X b tb tb2) (hm : behindInMarks op b = false) : PT2 X (.Compare a [op] [b] pos) (tTest (tOp r ta tb)) (dVal (dOp r2 ta2 tb2)) :=
  ⟨pt_cmpR ho ha.pe hb.pe hm, fun ρ μ T F q I σ H hA hS Q g1 g2 => re_op hr ha.re hb.re ρ μ _ q I σ H hA hS _ fun d μ' v I' H' q' a' k' r' => re_val a' r' q' (g1.past k') (g2.past k')⟩
theorem t_val [Jx] (he : PE2 X e te te2) (hw : ∀ whole, isTrue e X.env whole = (do let v ← whole; standAt e.pos; holding [v] (truthy v)) := by intro _; rfl) : PT2 X e (tB te) (dVal te2) :=
  ⟨pt_val he.pe hw, fun ρ μ T F q I σ H hA hS Q g1 g2 => he.re ρ μ _ q I σ H hA hS _ fun d μ' v I' H' q' a' k' r' => re_val a' r' q' (g1.past k') (g2.past k')⟩
theorem t_lt [Jx] (ha : PE2 X a ta ta2) (hb : PE2 X b tb tb2) : PT2 X (.Compare a [.Lt] [b] pos) (tTest (tOp rvLt ta tb)) (dVal (dOp dLt ta2 tb2)) := t_cmp op_lt rr_I0 ha hb (nomark _)
theorem t_le [Jx] (ha : PE2 X a ta ta2) (hb : PE2 X b tb tb2) : PT2 X (.Compare a [.LtE] [b] pos) (tTest (tOp rvLe ta tb)) (dVal (dOp dLe ta2 tb2)) := t_cmp op_le rr_I0 ha hb (nomark _)
theorem t_gt [Jx] (ha : PE2 X a ta ta2) (hb : PE2 X b tb tb2) : PT2 X (.Compare a [.Gt] [b] pos) (tTest (tOp rvGt ta tb)) (dVal (dOp dGt ta2 tb2)) := t_cmp op_gt rr_I0 ha hb (nomark _)
theorem t_ge [Jx] (ha : PE2 X a ta ta2) (hb : PE2 X b tb tb2) : PT2 X (.Compare a [.GtE] [b] pos) (tTest (tOp rvGe ta tb)) (dVal (dOp dGe ta2 tb2)) := t_cmp op_ge rr_I0 ha hb (nomark _)
theorem t_eq [Jx] {k : Nat} (hr : Room k X.A) (ha : PE2 X a ta ta2) (hb : PE2 X b tb tb2) : PT2 X (.Compare a [.Eq] [b] pos) (tTest (tOp (rOr rEq (rEqD X.K)) ta tb)) (dVal (dOp dEq ta2 tb2)) := t_cmp (opOr op_eq (op_eqD hr.units)) rr_eq ha hb (nomark _)
theorem t_ne [Jx] {k : Nat} (hr : Room k X.A) (ha : PE2 X a ta ta2) (hb : PE2 X b tb tb2) : PT2 X (.Compare a [.NotEq] [b] pos) (tTest (tOp (rOr rNe (rNeD X.K)) ta tb)) (dVal (dOp dNe ta2 tb2)) := t_cmp (opOr op_ne (op_neD hr.units)) rr_ne ha hb (nomark _)
theorem t_isN [Jx] (ha : PE2 X a ta ta2) (hb : PE2 X b tb tb2) : PT2 X (.Compare a [.Is] [b] pos) (tTest (tOp rvIsN ta tb)) (dVal (dOp dIsN ta2 tb2)) := t_cmp op_isN rr_isN ha hb (nomark _)
theorem t_notN [Jx] (ha : PE2 X a ta ta2) (hb : PE2 X b tb tb2) : PT2 X (.Compare a [.IsNot] [b] pos) (tTest (tOp rvNotN ta tb)) (dVal (dOp dNotN ta2 tb2)) := t_cmp op_notN rr_notN ha hb (nomark _)
theorem rr_isB [Jx] : RR K rIsB dIsB := fun x y μ Q2 q I H vx vy hA rx ry Q k => by
  obtain ⟨a, b, rfl, rfl, q⟩ := q
  exact ⟨a, b, rx, ry, k _ _ _ _ _ q hA Kp.refl rfl⟩
theorem rr_notB [Jx] : RR K rNotB dNotB := fun x y μ Q2 q I H vx vy hA rx ry Q k => by
  obtain ⟨a, b, rfl, rfl, q⟩ := q
  exact ⟨a, b, rx, ry, k _ _ _ _ _ q hA Kp.refl rfl⟩
theorem t_isB [Jx] (ha : PE2 X a ta ta2) (hb : PE2 X b tb tb2) : PT2 X (.Compare a [.Is] [b] pos) (tTest (tOp rIsB ta tb)) (dVal (dOp dIsB ta2 tb2)) := t_cmp op_isBl rr_isB ha hb (nomark _)
theorem t_notB [Jx] (ha : PE2 X a ta ta2) (hb : PE2 X b tb tb2) : PT2 X (.Compare a [.IsNot] [b] pos) (tTest (tOp rNotB ta tb)) (dVal (dOp dNotB ta2 tb2)) := t_cmp op_notBl rr_notB ha hb (nomark _)
theorem t_in [Jx] (ha : PE2 X a ta ta2) (hb : PE2 X b tb tb2) (hm : behindInMarks .In b = false) : PT2 X (.Compare a [.In] [b] pos) (tTest (tOp (rOr rvInS (rOr rvInSS (rIn X.K false))) ta tb)) (dVal (dOp dIn ta2 tb2)) := t_cmp (opOr op_in_sign (opOr op_in_str op_in_seq)) rr_in ha hb hm
theorem t_notIn [Jx] (ha : PE2 X a ta ta2) (hb : PE2 X b tb tb2) (hm : behindInMarks .NotIn b = false) : PT2 X (.Compare a [.NotIn] [b] pos) (tTest (tOp (rOr rvNotInS (rOr rvNotInSS (rIn X.K true))) ta tb)) (dVal (dOp dNotIn ta2 tb2)) := t_cmp (opOr op_notIn_sign (opOr op_notin_str op_notIn_seq)) rr_notIn ha hb hm
/-- and, or, not -/
def dAnd (t u : TT2) : TT2 := fun ρ μ T F => t ρ μ (fun μ1 => u ρ μ1 T F) F
def dOr (t u : TT2) : TT2 := fun ρ μ T F => t ρ μ T (fun μ1 => u ρ μ1 T F)
def dNot (t : TT2) : TT2 := fun ρ μ T F => t ρ μ F T
theorem w_and (h : tt2 ρ μ (fun μ1 => tu2 ρ μ1 T F) F) : dAnd tt2 tu2 ρ μ T F := h
theorem w_or (h : tt2 ρ μ T (fun μ1 => tu2 ρ μ1 T F)) : dOr tt2 tu2 ρ μ T F := h
theorem w_not (h : tt2 ρ μ F T) : dNot tt2 ρ μ T F := h
theorem t_not [Jx] (h : PT2 X a tt tt2) : PT2 X (.UnaryOp .Not a pos) (tNot tt) (dNot tt2) := ⟨pt_not h.pt, fun ρ μ T F q I σ H hA hS Q g1 g2 => h.re ρ μ F T q I σ H hA hS _ g2 g1⟩
theorem RT.and [Jx] (h : RT K tt tt2) (g : RT K tu tu2) : RT K (tAnd tt tu) (dAnd tt2 tu2) := fun ρ μ T F q I σ H hA hS Q g1 g2 =>
  h ρ μ _ F q I σ H hA hS _ (fun μ1 I1 H1 q1 a1 k1 => by
    show tu σ H1 Q
    exact g ρ μ1 T F q1 I1 σ H1 a1 (hS.mono k1.ex) Q (g1.past k1) (g2.past k1)) g2
theorem RT.or [Jx] (h : RT K tt tt2) (g : RT K tu tu2) : RT K (tOr tt tu) (dOr tt2 tu2) := fun ρ μ T F q I σ H hA hS Q g1 g2 =>
  h ρ μ T _ q I σ H hA hS _ g1 (fun μ1 I1 H1 q1 a1 k1 => by
    show tu σ H1 Q
    exact g ρ μ1 T F q1 I1 σ H1 a1 (hS.mono k1.ex) Q (g1.past k1) (g2.past k1))
theorem k_and1 [Jx] (h : PT2 X a tt tt2) : PW2 X (.BoolOp .And [a] pos) tt tt2 := ⟨pw_and1 h.pt, h.re⟩
theorem k_or1 [Jx] (h : PT2 X a tt tt2) : PW2 X (.BoolOp .Or [a] pos) tt tt2 := ⟨pw_or1 h.pt, h.re⟩
theorem k_and [Jx] (h : PT2 X a tt tt2) (g : PW2 X (.BoolOp .And (b :: rest) pos) tu tu2) : PW2 X (.BoolOp .And (a :: b :: rest) pos) (tAnd tt tu) (dAnd tt2 tu2) := ⟨pw_and h.pt g.pw, RT.and h.re g.re⟩
theorem k_or [Jx] (h : PT2 X a tt tt2) (g : PW2 X (.BoolOp .Or (b :: rest) pos) tu tu2) : PW2 X (.BoolOp .Or (a :: b :: rest) pos) (tOr tt tu) (dOr tt2 tu2) := ⟨pw_or h.pt g.pw, RT.or h.re g.re⟩
theorem t_w [Jx] (h : PW2 X a tt tt2) : PT2 X a tt tt2 := ⟨h.pw.pt, h.re⟩
/-- as values -/
def dAndV (ta tb : TE2) : TE2 := fun ρ μ Q => ta ρ μ fun d μ1 => ∃ b, d = .bl b ∧ Br b (tb ρ μ1 Q) (Q (.bl false) μ1)
def dOrV (ta tb : TE2) : TE2 := fun ρ μ Q => ta ρ μ fun d μ1 => ∃ b, d = .bl b ∧ Br b (Q (.bl true) μ1) (tb ρ μ1 Q)
def dNotV (ta : TE2) : TE2 := fun ρ μ Q => ta ρ μ fun d μ1 => ∃ b, d = .bl b ∧ Q (.bl (!b)) μ1
theorem w_andV (h : ta2 ρ μ (dTail (fun μ1 => tb2 ρ μ1 Q) (fun μ1 => Q (.bl false) μ1))) : dAndV ta2 tb2 ρ μ Q := h
theorem w_orV (h : ta2 ρ μ (dTail (fun μ1 => Q (.bl true) μ1) (fun μ1 => tb2 ρ μ1 Q))) : dOrV ta2 tb2 ρ μ Q := h
def dNotK (Q : DK) : DK := fun d μ1 => ∃ b, d = .bl b ∧ Q (.bl (!b)) μ1
theorem w_notK {b : Bool} (q : Q (.bl (!b)) μ) : dNotK Q (.bl b) μ := ⟨b, rfl, q⟩
theorem w_notV (h : ta2 ρ μ (dNotK Q)) : dNotV ta2 ρ μ Q := h
theorem e_one [Jx] {op} (h : PE2 X a ta ta2) : PE2 X (.BoolOp op [a] pos) ta ta2 := ⟨pe_one h.pe, h.re⟩
theorem e_and [Jx] (ha : PE2 X a ta ta2) (hb : PE2 X (.BoolOp .And (b :: rest) pos) tb tb2) : PE2 X (.BoolOp .And (a :: b :: rest) pos) (tAndV ta tb) (dAndV ta2 tb2) :=
  ⟨pe_and ha.pe hb.pe, fun ρ μ Q2 q I σ H hA hS Q g => ha.re ρ μ _ q I σ H hA hS _ fun d μ1 v I1 H1 q1 a1 k1 r1 => by
    obtain ⟨b, rfl, q1⟩ := q1
    refine ⟨b, r1, ?_⟩
    cases b with
    | true => exact hb.re ρ μ1 Q2 (q1.1 rfl) I1 σ H1 a1 (hS.mono k1.ex) Q (g.past k1)
    | false => exact g _ μ1 _ I1 H1 (q1.2 rfl) a1 k1 rfl⟩
theorem e_or [Jx] (ha : PE2 X a ta ta2) (hb : PE2 X (.BoolOp .Or (b :: rest) pos) tb tb2) : PE2 X (.BoolOp .Or (a :: b :: rest) pos) (tOrV ta tb) (dOrV ta2 tb2) :=
  ⟨pe_or ha.pe hb.pe, fun ρ μ Q2 q I σ H hA hS Q g => ha.re ρ μ _ q I σ H hA hS _ fun d μ1 v I1 H1 q1 a1 k1 r1 => by
    obtain ⟨b, rfl, q1⟩ := q1
    refine ⟨b, r1, ?_⟩
    cases b with
    | true => exact g _ μ1 _ I1 H1 (q1.1 rfl) a1 k1 rfl
    | false => exact hb.re ρ μ1 Q2 (q1.2 rfl) I1 σ H1 a1 (hS.mono k1.ex) Q (g.past k1)⟩
theorem e_not [Jx] (ha : PE2 X a ta ta2) : PE2 X (.UnaryOp .Not a pos) (tNotV ta) (dNotV ta2) :=
  ⟨pe_not ha.pe, fun ρ μ Q2 q I σ H hA hS Q g => ha.re ρ μ _ q I σ H hA hS _ fun d μ1 v I1 H1 q1 a1 k1 r1 => by
    obtain ⟨b, rfl, q1⟩ := q1
    exact ⟨b, r1, g _ μ1 _ I1 H1 q1 a1 k1 rfl⟩⟩
def dIf (t : TT2) (ta tb : TE2) : TE2 := fun ρ μ Q => t ρ μ (fun μ1 => ta ρ μ1 Q) (fun μ1 => tb ρ μ1 Q)
theorem w_if (h : tt2 ρ μ (fun μ1 => ta2 ρ μ1 Q) (fun μ1 => tb2 ρ μ1 Q)) : dIf tt2 ta2 tb2 ρ μ Q := h
theorem e_if [Jx] (hc : PT2 X c tt tt2) (ha : PE2 X a ta ta2) (hb : PE2 X b tb tb2) : PE2 X (.IfExp c a b pos) (tIf tt ta tb) (dIf tt2 ta2 tb2) :=
  ⟨pe_ifExp hc.pt ha.pe hb.pe, fun ρ μ Q2 q I σ H hA hS Q g => hc.re ρ μ _ _ q I σ H hA hS _
    (fun μ1 I1 H1 q1 a1 k1 => by
      show ta σ H1 Q
      exact ha.re ρ μ1 Q2 q1 I1 σ H1 a1 (hS.mono k1.ex) Q (g.past k1))
    (fun μ1 I1 H1 q1 a1 k1 => by
      show tb σ H1 Q
      exact hb.re ρ μ1 Q2 q1 I1 σ H1 a1 (hS.mono k1.ex) Q (g.past k1))⟩
/-- a < b < c -/
def dChain (r r' : DR2) (ta tb tc : TE2) : TE2 := fun ρ μ Q => ta ρ μ fun x μ1 => tb ρ μ1 fun y μ2 => r x y μ2 (dTail (fun μ3 => tc ρ μ3 fun z μ4 => r' y z μ4 Q) (fun μ3 => Q (.bl false) μ3))
theorem w_chain {r r' : DR2} (h : ta2 ρ μ fun x μ1 => tb2 ρ μ1 fun y μ2 => r x y μ2 (dTail (fun μ3 => tc2 ρ μ3 fun z μ4 => r' y z μ4 Q) (fun μ3 => Q (.bl false) μ3))) : dChain r r' ta2 tb2 tc2 ρ μ Q := h
theorem re_chain [Jx] {r r' : R2} {r2 r2' : DR2} (hr : RR K r r2) (hr' : RR K r' r2') (ha : RE K ta ta2) (hb : RE K tb tb2) (hc : RE K tc tc2) : RE K (tChain r r' ta tb tc) (dChain r2 r2' ta2 tb2 tc2) := fun ρ μ Q2 q I σ H hA hS Q g =>
  ha ρ μ _ q I σ H hA hS _ fun x μ1 vx I1 H1 q1 a1 k1 r1 => hb ρ μ1 _ q1 I1 σ H1 a1 (hS.mono k1.ex) _ fun y μ2 vy I2 H2 q2 a2 k2 r2w =>
    hr x y μ2 _ q2 I2 H2 vx vy a2 (r1.mono k2.ex) r2w _ fun d μ3 v I3 H3 q3 a3 k3 r3 => by
      obtain ⟨b, rfl, q3⟩ := q3
      refine ⟨b, r3, ?_⟩
      cases b with
      | true => exact hc ρ μ3 _ (q3.1 rfl) I3 σ H3 a3 (hS.mono ((k1.trans k2).trans k3).ex) _ fun z μ4 vz I4 H4 q4 a4 k4 r4 => hr' y z μ4 Q2 q4 I4 H4 vy vz a4 (r2w.mono (k3.trans k4).ex) r4 Q (g.past (((k1.trans k2).trans k3).trans k4))
      | false => exact g _ μ3 _ I3 H3 (q3.2 rfl) a3 ((k1.trans k2).trans k3) rfl
theorem e_chain [Jx] {op op' : CmpOp} {r r' : R2} {r2 r2' : DR2} (ho : OpR X (compareOp op) r) (ho' : OpR X (compareOp op') r') (hr : RR X.K r r2) (hr' : RR X.K r' r2') (ha : PE2 X a ta ta2) (hb : PE2 X b tb tb2) (hc : PE2 X c tc tc2)
    (hm : lastMarks [op, op'] [b, c] = false := by with_unfolding_all rfl) : PE2 X (.Compare a [op, op'] [b, c] pos) (tChain r r' ta tb tc) (dChain r2 r2' ta2 tb2 tc2) :=
  ⟨pe_chain ho ho' ha.pe hb.pe hc.pe hm, re_chain hr hr' ha.re hb.re hc.re⟩
theorem rr_lt [Jx] : RR K rvLt dLt := rr_I0
theorem rr_le [Jx] : RR K rvLe dLe := rr_I0
/-! branches -/
theorem br_t {A B : Prop} (h : A) : Br true A B := ⟨fun _ => h, fun z => (by cases z)⟩
theorem br_f {A B : Prop} (h : B) : Br false A B := ⟨fun z => (by cases z), fun _ => h⟩
theorem br_dec {p : Prop} [Decidable p] {A B : Prop} (h1 : p → A) (h2 : ¬ p → B) : Br (decide p) A B := ⟨fun z => h1 (of_decide_eq_true z), fun z => h2 (of_decide_eq_false z)⟩
theorem br_not {b : Bool} {A B : Prop} (h : Br b B A) : Br (!b) A B := by cases b <;> first | exact br_t (h.2 rfl) | exact br_f (h.1 rfl)
theorem br_and {a b : Bool} {A B : Prop} (h : Br a (Br b A B) B) : Br (a && b) A B := by cases a <;> cases b <;> first | exact br_f (h.2 rfl) | exact h.1 rfl
theorem br_or {a b : Bool} {A B : Prop} (h : Br a A (Br b A B)) : Br (a || b) A B := by cases a <;> cases b <;> first | exact br_t (h.1 rfl) | exact h.2 rfl
theorem br_op {b : Bool} {A B : Prop} (h1 : b = true → A) (h2 : b = false → B) : Br b A B := ⟨h1, h2⟩
theorem br_T {b : Bool} {A B : Prop} (e : b = true) (h : A) : Br b A B := ⟨fun _ => h, fun z => by rw [e] at z; cases z⟩
theorem br_F {b : Bool} {A B : Prop} (e : b = false) (h : B) : Br b A B := ⟨fun z => (by rw [e] at z; cases z), fun _ => h⟩
theorem br_decT {p : Prop} [Decidable p] {A B : Prop} (e : p) (h : A) : Br (decide p) A B := br_T (decide_eq_true e) h
theorem br_decF {p : Prop} [Decidable p] {A B : Prop} (e : ¬ p) (h : B) : Br (decide p) A B := br_F (decide_eq_false e) h

/-! ### argument lists, displays -/
def dNil : TA2 := fun _ μ Q => Q [] μ
def dCons (ta : TE2) (tr : TA2) : TA2 := fun ρ μ Q => ta ρ μ fun x μ1 => tr ρ μ1 fun xs μ2 => Q (x :: xs) μ2
theorem w_nil {QA : List D → Mu → Prop} (q : QA [] μ) : dNil ρ μ QA := q
theorem w_cons {QA : List D → Mu → Prop} (h : ta2 ρ μ fun x μ1 => tl2 ρ μ1 fun xs μ2 => QA (x :: xs) μ2) : dCons ta2 tl2 ρ μ QA := h
theorem a_nil [Jx] : PA2 X [] tNil dNil := ⟨pa_nil, fun ρ μ Q2 q I σ H hA hS Q g => g [] μ [] I H q hA Kp.refl rfl⟩
theorem a_cons [Jx] (ha : PE2 X e te te2) (hr : PA2 X es tl tl2) (hs : starEach (e :: es) X.env = (false, eval e X.env) :: starEach es X.env := by rfl) : PA2 X (e :: es) (tCons te tl) (dCons te2 tl2) :=
  ⟨pa_cons ha.pe hr.pa hs, fun ρ μ Q2 q I σ H hA hS Q g => ha.re ρ μ _ q I σ H hA hS _ fun x μ1 vx I1 H1 q1 a1 k1 r1 => hr.re ρ μ1 _ q1 I1 σ H1 a1 (hS.mono k1.ex) _ fun xs μ2 vs I2 H2 q2 a2 k2 r2 =>
    g (x :: xs) μ2 (vx :: vs) I2 H2 q2 a2 (k1.trans k2) (RpA.cons (r1.mono k2.ex) r2)⟩
def dTup (t : TA2) : TE2 := fun ρ μ Q => t ρ μ fun ds μ1 => ds.length ≤ sizeLine ∧ Q (.tup ds) μ1
def dTupK (Q : DK) : List D → Mu → Prop := fun ds μ1 => ds.length ≤ sizeLine ∧ Q (.tup ds) μ1
theorem w_tup (h : tl2 ρ μ (dTupK Q)) : dTup tl2 ρ μ Q := h
theorem w_tupK {ds : List D} (z : ds.length ≤ sizeLine) (q : Q (.tup ds) μ) : dTupK Q ds μ := ⟨z, q⟩
def dLst (t : TA2) : TE2 := fun ρ μ Q => t ρ μ fun ds μ1 => dNewL ds μ1 Q
theorem w_lst (h : tl2 ρ μ fun ds μ1 => dNewL ds μ1 Q) : dLst tl2 ρ μ Q := h
theorem e_tup [Jx] {x1} (h : PA2 X es tl tl2) : PE2 X (.Tuple es x1 pos) (tTup tl) (dTup tl2) :=
  ⟨pe_tup h.pa, fun ρ μ Q2 q I σ H hA hS Q g => h.re ρ μ _ q I σ H hA hS _ fun ds μ1 vs I1 H1 q1 a1 k1 r1 => ⟨by rw [r1.length]; exact q1.1, go_newT q1.2 a1 r1 (g.past k1)⟩⟩
theorem e_lst [Jx] (h : PA2 X es tl tl2) : PE2 X (.List es pos) (tLst tl) (dLst tl2) :=
  ⟨pe_lst h.pa, fun ρ μ Q2 q I σ H hA hS Q g => h.re ρ μ _ q I σ H hA hS _ fun ds μ1 vs I1 H1 q1 a1 k1 r1 => ⟨by rw [r1.length]; exact q1.1, go_newL q1 a1 r1 (g.past k1)⟩⟩
/-- a list that stays from now on -/
def dFz (t : TE2) : TE2 := fun ρ μ Q => t ρ μ fun d μ1 => ∃ p ds, d = .adr p ∧ μ1 p = some (.lst ds) ∧ Q (.lst ds) (mdel μ1 p)
def dFzK (Q : DK) : DK := fun d μ1 => ∃ p ds, d = .adr p ∧ μ1 p = some (.lst ds) ∧ Q (.lst ds) (mdel μ1 p)
theorem w_fz (h : te2 ρ μ (dFzK Q)) : dFz te2 ρ μ Q := h
theorem w_fzK {p : Addr} {ds : List D} (h : μ p = some (.lst ds)) (q : Q (.lst ds) (mdel μ p)) : dFzK Q (.adr p) μ := ⟨p, ds, rfl, h, q⟩
/-- .. just made -/
theorem w_fzN {p : Addr} {ds : List D} (h : μ p = none) (q : Q (.lst ds) μ) : dFzK Q (.adr p) (mup μ p (.lst ds)) := ⟨p, ds, rfl, mup_same, by rw [mdel_mup h]; exact q⟩
theorem e_fz [Jx] (h : PE2 X e te te2) : PE2 X e te (dFz te2) :=
  ⟨h.pe, fun ρ μ Q2 q I σ H hA hS Q g => h.re ρ μ _ q I σ H hA hS _ fun d μ1 v I1 H1 q1 a1 k1 r1 => by
    obtain ⟨p, ds, rfl, hp, q1⟩ := q1
    obtain ⟨hI, ho, h1, vs, rfl, h2⟩ := a1.own p _ hp
    exact g _ _ _ _ _ q1 (a1.frz hp h1) (k1.trans (Kp.frz hp hI)) ⟨p, vs, r1, upd_same, h2.mono (Exx.new hI)⟩⟩

/-! ### subscripts, slices -/
/-- an item of a list, a tuple, a text -/
def dIx : DR2 := fun x y μ Q => (∃ ds i d, asS μ x = some ds ∧ y = .int i ∧ atI ds i = some d ∧ Q d μ) ∨ ∃ z i c, x = .str z ∧ y = .int i ∧ z.length ≤ sizeLine ∧ atI z.cps.toList i = some c ∧ Q (.str ⟨#[c]⟩) μ
theorem w_ixS {x : D} {ds : List D} {i : Int} {d : D} (h : asS μ x = some ds) (e : atI ds i = some d) (q : Q d μ) : dIx x (.int i) μ Q := .inl ⟨ds, i, d, h, rfl, e, q⟩
theorem w_ixT {ds : List D} {i : Int} {d : D} (e : atI ds i = some d) (q : Q d μ) : dIx (.tup ds) (.int i) μ Q := .inl ⟨ds, i, d, rfl, rfl, e, q⟩
theorem w_ixL {ds : List D} {i : Int} {d : D} (e : atI ds i = some d) (q : Q d μ) : dIx (.lst ds) (.int i) μ Q := .inl ⟨ds, i, d, rfl, rfl, e, q⟩
theorem w_ixC {z : Str} {i : Int} {c : Nat} (h : z.length ≤ sizeLine) (e : atI z.cps.toList i = some c) (q : Q (.str ⟨#[c]⟩) μ) : dIx (.str z) (.int i) μ Q := .inr ⟨z, i, c, rfl, rfl, h, e, q⟩
theorem RpA.atI {I : Hp} {ds : List D} {vs : List V} {i : Int} {d : D} (r : RpA K I ds vs) (h : L2.atI ds i = some d) : ∃ v, L2.atI vs i = some v ∧ Rp K I d v := by
  unfold L2.atI at h ⊢
  rw [r.length]
  cases q : ixN ds.length i with
  | none => rw [q] at h; cases h
  | some j => rw [q] at h; exact r.get h
theorem rr_ix [Jx] : RR K (rIx K) dIx := fun x y μ Q2 q I H vx vy hA rx ry Q k => by
  rcases q with ⟨ds, i, d, h, rfl, e, q⟩ | ⟨z, i, c, rfl, rfl, h, e, q⟩
  · obtain ⟨p, vs, e1, hs, r⟩ := asS_at hA rx h
    obtain ⟨v, e2, r2⟩ := r.atI e
    have fin := k _ _ _ _ _ q hA Kp.refl r2
    rcases hs with hs | hs
    · exact .inl ⟨p, vs, i, v, e1, ry, hs, e2, fin⟩
    · exact .inr (.inl ⟨p, vs, i, v, e1, ry, hs, e2, fin⟩)
  · exact .inr (.inr ⟨z, i, c, rx, ry, h, e, k _ _ _ _ _ q hA Kp.refl rfl⟩)
theorem e_ix [Jx] (ha : PE2 X a ta ta2) (hb : PE2 X b tb tb2) (hs : PlainIx b) : PE2 X (.Subscript a b pos) (tOp (rIx X.K) ta tb) (dOp dIx ta2 tb2) := ⟨pe_ix ix_seq ha.pe hb.pe hs, re_op rr_ix ha.re hb.re⟩
/-- an item of the script -/
def dIxScr : DR2 := fun x y μ Q => ∃ ns i n, x = .scr ns ∧ y = .int i ∧ atI ns i = some n ∧ Q (.int n) μ
theorem w_ixScr {ns : List Int} {i n : Int} (e : atI ns i = some n) (q : Q (.int n) μ) : dIxScr (.scr ns) (.int i) μ Q := ⟨ns, i, n, rfl, rfl, e, q⟩
theorem atI_map {ns : List Int} {i n : Int} (h : atI ns i = some n) : atI (ns.map V.int) i = some (.int n) := by
  unfold atI at h ⊢
  rw [List.length_map]
  cases q : ixN ns.length i with
  | none => rw [q] at h; cases h
  | some j =>
    rw [q] at h
    show (ns.map V.int)[j]? = _
    rw [List.getElem?_map, show ns[j]? = some n from h]; rfl
theorem e_ixScr [Jx] (ha : PE2 X a ta ta2) (hb : PE2 X b tb tb2) (hs : PlainIx b) : PE2 X (.Subscript a b pos) (tOp (rIxL X.K) ta tb) (dOp dIxScr ta2 tb2) := ⟨pe_ix ix_list ha.pe hb.pe hs, re_op (fun x y μ Q2 q I H vx vy hA rx ry Q k => by
  obtain ⟨ns, i, n, rfl, rfl, e, q⟩ := q
  obtain ⟨p, e1, hs⟩ := rx
  exact ⟨p, _, i, _, e1, ry, (show Exx I H from hA.sub).sql hs, atI_map e, k _ _ _ _ _ q hA Kp.refl rfl⟩) ha.re hb.re⟩
/-- slices -/
abbrev DSl := D → Option Int → Option Int → Mu → DK → Prop
abbrev TO2 := Env2 → Mu → (Option Int → Mu → Prop) → Prop
def RO [Jx] (K : PySem.W.Frag) (to : TO) (t : TO2) : Prop := ∀ ρ μ Q2, t ρ μ Q2 → ∀ I σ H, At K μ I H → Slots K I ρ σ → ∀ Q : Option Int → Hp → Prop, (∀ i μ' I' H', Q2 i μ' → At K μ' I' H' → Kp I μ H I' μ' H' → Q i H') → to σ H Q
structure PO2 [Jx] (X : Cx) (e : Option Expr) (to : TO) (t : TO2) : Prop where
  po : PO X e to
  re : RO X.K to t
def dNoPart : TO2 := fun _ μ Q => Q none μ
def dPart (t : TE2) : TO2 := fun ρ μ Q => t ρ μ fun d μ1 => ∃ i, d = .int i ∧ Q (some i) μ1
def dPartK (Q : Option Int → Mu → Prop) : DK := fun d μ1 => ∃ i, d = .int i ∧ Q (some i) μ1
theorem w_noPart {QO : Option Int → Mu → Prop} (q : QO none μ) : dNoPart ρ μ QO := q
theorem w_part {QO : Option Int → Mu → Prop} (h : te2 ρ μ (dPartK QO)) : dPart te2 ρ μ QO := h
theorem w_partK {QO : Option Int → Mu → Prop} {i : Int} (q : QO (some i) μ) : dPartK QO (.int i) μ := ⟨i, rfl, q⟩
theorem o_none [Jx] : PO2 X none tNoPart dNoPart := ⟨po_none, fun ρ μ Q2 q I σ H hA hS Q g => g _ _ _ _ q hA Kp.refl⟩
theorem o_some [Jx] (h : PE2 X e te te2) : PO2 X (some e) (tPart te) (dPart te2) := ⟨po_some h.pe, fun ρ μ Q2 q I σ H hA hS Q g => h.re ρ μ _ q I σ H hA hS _ fun d μ1 v I1 H1 q1 a1 k1 r1 => by
  obtain ⟨i, rfl, q1⟩ := q1
  exact ⟨i, r1, g _ _ _ _ q1 a1 k1⟩⟩
def cutD (ds : List D) (lo hi : Option Int) : List D := (ds.drop (HT.sIx ds.length 0 lo)).take (HT.sIx ds.length ds.length hi - HT.sIx ds.length 0 lo)
def dSl (te : TE2) (tl th : TO2) : TE2 := fun ρ μ Q => te ρ μ fun x μ1 => tl ρ μ1 fun lo μ2 => th ρ μ2 fun hi μ3 =>
  (∃ ds, x = .tup ds ∧ Q (.tup (cutD ds lo hi)) μ3) ∨ (∃ ds, asL μ3 x = some ds ∧ ∀ p, μ3 p = none → Q (.adr p) (mup μ3 p (.lst (cutD ds lo hi)))) ∨ ∃ z, x = .str z ∧ z.length ≤ sizeLine ∧ Q (.str (cutS z lo hi)) μ3
def dCut (x : D) (lo hi : Option Int) (μ3 : Mu) (Q : DK) : Prop :=
  (∃ ds, x = .tup ds ∧ Q (.tup (cutD ds lo hi)) μ3) ∨ (∃ ds, asL μ3 x = some ds ∧ ∀ p, μ3 p = none → Q (.adr p) (mup μ3 p (.lst (cutD ds lo hi)))) ∨ ∃ z, x = .str z ∧ z.length ≤ sizeLine ∧ Q (.str (cutS z lo hi)) μ3
theorem w_sl {tlo thi : TO2} (h : te2 ρ μ fun x μ1 => tlo ρ μ1 fun lo μ2 => thi ρ μ2 fun hi μ3 => dCut x lo hi μ3 Q) : dSl te2 tlo thi ρ μ Q := h
theorem w_cutT {ds : List D} {lo hi : Option Int} (q : Q (.tup (cutD ds lo hi)) μ) : dCut (.tup ds) lo hi μ Q := .inl ⟨ds, rfl, q⟩
theorem w_cutL {x : D} {ds : List D} {lo hi : Option Int} (h : asL μ x = some ds) (q : ∀ p, μ p = none → Q (.adr p) (mup μ p (.lst (cutD ds lo hi)))) : dCut x lo hi μ Q := .inr (.inl ⟨ds, h, q⟩)
theorem w_cutS {z : Str} {lo hi : Option Int} (h : z.length ≤ sizeLine) (q : Q (.str (cutS z lo hi)) μ) : dCut (.str z) lo hi μ Q := .inr (.inr ⟨z, rfl, h, q⟩)
theorem RpA.cut {I : Hp} {ds : List D} {vs : List V} (r : RpA K I ds vs) (lo hi : Option Int) : RpA K I (cutD ds lo hi) (cutV vs lo hi) := by
  unfold cutD cutV
  rw [r.length]
  exact (r.drop _).take _
/-- a slice of anything -/
def rSlAll (K : PySem.W.Frag) : V → Option Int → Option Int → Hp → VK → Prop := fun x lo hi H Q => rSlA K x lo hi H Q ∨ rSlL K x lo hi H Q ∨ rSlS x lo hi H Q
theorem sl_all : SlR X (rSlAll X.K) := by
  intro pins s σ H x v vl vu lo hi sl Q I rx hs pl pu h
  rcases h with h | h | h
  · exact sl_tupA pins s σ H x v vl vu lo hi sl Q I rx hs pl pu h
  · exact sl_list pins s σ H x v vl vu lo hi sl Q I rx hs pl pu h
  · exact sl_str pins s σ H x v vl vu lo hi sl Q I rx hs pl pu h
theorem e_slice [Jx] {lo hi : Option Expr} {p2 : Pos} {tlo thi : TO} {tlo2 thi2 : TO2} (he : PE2 X e te te2) (hl : PO2 X lo tlo tlo2) (hh : PO2 X hi thi thi2) : PE2 X (.Subscript e (.Slice lo hi none p2) pos) (tSl (rSlAll X.K) te tlo thi) (dSl te2 tlo2 thi2) :=
  ⟨pe_slice sl_all he.pe hl.po hh.po, fun ρ μ Q2 q I σ H hA hS Q g => he.re ρ μ _ q I σ H hA hS _ fun x μ1 v I1 H1 q1 a1 k1 r1 => hl.re ρ μ1 _ q1 I1 σ H1 a1 (hS.mono k1.ex) _ fun l μ2 I2 H2 q2 a2 k2 =>
    hh.re ρ μ2 _ q2 I2 σ H2 a2 (hS.mono (k1.trans k2).ex) _ fun u μ3 I3 H3 q3 a3 k3 => by
      have kk := (k1.trans k2).trans k3
      have r3 := r1.mono (k2.trans k3).ex
      rcases q3 with ⟨ds, rfl, q3⟩ | ⟨ds, h, q3⟩ | ⟨z, rfl, h, q3⟩
      · obtain ⟨p, vs, e1, h1, h2⟩ := r3
        refine .inl ⟨p, vs, e1, (show Exx I3 H3 from a3.sub).sqt h1, fun w => ?_, fun _ => go_newT q3 a3 (h2.cut _ _) (g.past kk)⟩
        refine g _ _ _ _ _ q3 a3 kk ⟨p, vs, rfl, h1, ?_⟩
        have e : cutD ds l u = ds := by
          unfold cutD
          rw [h2.length] at w
          rw [w.1, w.2, Nat.sub_zero, List.drop_zero, List.take_length]
        rw [e]; exact h2
      · obtain ⟨p, vs, e1, h1, h2⟩ := asL_at a3 r3 h
        refine .inr (.inl ⟨p, vs, e1, SqL.of h1, fun p' hp => ?_⟩)
        exact g _ _ _ _ _ (q3 p' (a3.noM hp)) (a3.got hp ⟨_, rfl, h2.cut _ _⟩) (kk.trans (Kp.got hp)) rfl
      · exact .inr (.inr ⟨z, r3, h, g _ _ _ _ _ q3 a3 kk rfl⟩)⟩
/-- xs[::-1] of a list -/
def dRevL (t : TE2) : TE2 := fun ρ μ Q => t ρ μ fun x μ1 => ∃ ds, asL μ1 x = some ds ∧ ∀ p, μ1 p = none → Q (.adr p) (mup μ1 p (.lst ds.reverse))
def dRevK (Q : DK) : DK := fun x μ1 => ∃ ds, asL μ1 x = some ds ∧ ∀ p, μ1 p = none → Q (.adr p) (mup μ1 p (.lst ds.reverse))
theorem w_revL (h : te2 ρ μ (dRevK Q)) : dRevL te2 ρ μ Q := h
theorem w_revK {x : D} {ds : List D} (h : asL μ x = some ds) (q : ∀ p, μ p = none → Q (.adr p) (mup μ p (.lst ds.reverse))) : dRevK Q x μ := ⟨ds, h, q⟩
theorem e_revL [Jx] {k : Nat} {p1 p2 p3 : Pos} (he : PE2 X e te te2) : PE2 X (.Subscript e (.Slice none none (some (.UnaryOp .USub (.Constant (.int 1) k p1) p2)) p3) pos) (tRevL X.K te) (dRevL te2) :=
  ⟨pe_revL he.pe, fun ρ μ Q2 q I σ H hA hS Q g => he.re ρ μ _ q I σ H hA hS _ fun x μ1 v I1 H1 q1 a1 k1 r1 => by
    obtain ⟨ds, h, q1⟩ := q1
    obtain ⟨p, vs, e1, h1, h2⟩ := asL_at a1 r1 h
    exact ⟨p, vs, e1, SqL.of h1, fun p' hp => g _ _ _ _ _ (q1 p' (a1.noM hp)) (a1.got hp ⟨_, rfl, h2.reverse⟩) (k1.trans (Kp.got hp)) rfl⟩⟩
end
end Y

set_option Elab.async false
set_option linter.all false
set_option maxRecDepth 100000
set_option maxHeartbeats 4000000
namespace Y
open PySem PySem.Spec PyProof.Rows L2
section
variable {X : Cx} {K : PySem.W.Frag} {a b c e o : Expr} {es rest : List Expr} {ta tb tc te to : TE} {ta2 tb2 tc2 te2 to2 : TE2} {pos apos cpos p : Pos} {tt tu : TT} {tt2 tu2 : TT2} {tl : TA} {tl2 : TA2} {x : Str}
variable {ρ : Env2} {μ : Mu} {Q : DK} {T F : Mu → Prop}

/-! ### built-ins by their names -/
abbrev DRC := List D → Mu → DK → Prop
def RC [Jx] (K : PySem.W.Frag) (r : List V → Hp → VK → Prop) (r2 : DRC) : Prop := ∀ xs μ Q2, r2 xs μ Q2 → ∀ I H vs, At K μ I H → RpA K I xs vs → ∀ Q : VK, Go K I μ H Q2 Q → r vs H Q
def dCB (r : DRC) (t : TA2) : TE2 := fun ρ μ Q => t ρ μ fun ds μ1 => r ds μ1 Q
theorem w_cb {r : DRC} (h : tl2 ρ μ fun ds μ1 => r ds μ1 Q) : dCB r tl2 ρ μ Q := h
theorem re_cb [Jx] {r : List V → Hp → VK → Prop} {r2 : DRC} (hr : RC K r r2) (h : RA K tl tl2) : RE K (tCB r tl) (dCB r2 tl2) := fun ρ μ Q2 q I σ H hA hS Q g =>
  h ρ μ _ q I σ H hA hS _ fun ds μ1 vs I1 H1 q1 a1 k1 r1 => hr ds μ1 Q2 q1 I1 H1 vs a1 r1 Q (g.past k1)
theorem e_cb [Jx] {id : String} {r : List V → Hp → VK → Prop} {r2 : DRC} (hc : CallR X (.builtin id) r) (hr : RC X.K r r2) (hg : Gl X x) (hm : X.mg x = none) (hv : bootBuiltins x = some (.builtin id)) (ha : PA2 X (e :: es) tl tl2) (hn : x ≠ "__name__" := by decide) (hdb : (x == ("__debug__" : Str)) = false := by decide)
    (he : starEach (e :: es) X.env = (false, eval e X.env) :: starEach es X.env := by rfl) (hpl : (backTo pos (starEach es X.env)).any (·.1) = false := by rfl) :
    PE2 X (.Call (.Name x p) (e :: es) [] pos) (tCB r tl) (dCB r2 tl2) := ⟨pe_callB hc hg hm hv ha.pa hn hdb he hpl, re_cb hr ha.re⟩
theorem e_cty [Jx] {T : String} {r : List V → Hp → VK → Prop} {r2 : DRC} (hc : CallR X (.type T) r) (hr : RC X.K r r2) (hg : Gl X x) (hm : X.mg x = none) (hv : bootBuiltins x = some (.type T)) (ha : PA2 X (e :: es) tl tl2) (hn : x ≠ "__name__" := by decide) (hdb : (x == ("__debug__" : Str)) = false := by decide)
    (he : starEach (e :: es) X.env = (false, eval e X.env) :: starEach es X.env := by rfl) (hpl : (backTo pos (starEach es X.env)).any (·.1) = false := by rfl) :
    PE2 X (.Call (.Name x p) (e :: es) [] pos) (tCB r tl) (dCB r2 tl2) := ⟨pe_callTy hc hg hm hv ha.pa hn hdb he hpl, re_cb hr ha.re⟩
/-- len -/
def dLen : DRC := fun xs μ Q => (∃ z, xs = [.str z] ∧ z.length ≤ sizeLine ∧ Q (.int z.length) μ) ∨ (∃ ns, xs = [.scr ns] ∧ Q (.int ns.length) μ) ∨ ∃ x ds, xs = [x] ∧ asS μ x = some ds ∧ Q (.int ds.length) μ
theorem w_lenS {z : Str} (h : z.length ≤ sizeLine) (q : Q (.int z.length) μ) : dLen [.str z] μ Q := .inl ⟨z, rfl, h, q⟩
theorem w_lenR {ns : List Int} (q : Q (.int ns.length) μ) : dLen [.scr ns] μ Q := .inr (.inl ⟨ns, rfl, q⟩)
theorem w_lenL {x : D} {ds : List D} (h : asS μ x = some ds) (q : Q (.int ds.length) μ) : dLen [x] μ Q := .inr (.inr ⟨x, ds, rfl, h, q⟩)
theorem w_lenT {ds : List D} (q : Q (.int ds.length) μ) : dLen [.tup ds] μ Q := .inr (.inr ⟨.tup ds, ds, rfl, rfl, q⟩)
abbrev rvLen (K : PySem.W.Frag) : List V → Hp → VK → Prop := fun xs H Q => ∃ x n, xs = [x] ∧ LenV K x H n ∧ Q (.int n) H
theorem RpA.one_inv {I : Hp} {d : D} {vs : List V} (r : RpA K I [d] vs) : ∃ v, vs = [v] ∧ Rp K I d v := by
  obtain ⟨v, w, rfl, h1, h2⟩ := r
  cases (show w = [] from h2)
  exact ⟨v, rfl, h1⟩
theorem RpA.two_inv {I : Hp} {d d' : D} {vs : List V} (r : RpA K I [d, d'] vs) : ∃ v v', vs = [v, v'] ∧ Rp K I d v ∧ Rp K I d' v' := by
  obtain ⟨v, w, rfl, h1, h2⟩ := r
  obtain ⟨v', rfl, h3⟩ := RpA.one_inv h2
  exact ⟨v, v', rfl, h1, h3⟩
theorem rc_len [Jx] : RC K (rvLen K) dLen := fun xs μ Q2 q I H vs hA r Q k => by
  rcases q with ⟨z, rfl, h, q⟩ | ⟨ns, rfl, q⟩ | ⟨x, ds, rfl, h, q⟩
  · obtain ⟨v, rfl, e⟩ := r.one_inv
    cases (show v = _ from e)
    exact ⟨_, _, rfl, ⟨h, rfl⟩, k _ _ _ _ _ q hA Kp.refl rfl⟩
  · obtain ⟨v, rfl, e⟩ := r.one_inv
    obtain ⟨p, rfl, h⟩ := e
    refine ⟨_, _, rfl, .inl ⟨_, (show Exx I H from hA.sub).sql h, rfl⟩, ?_⟩
    rw [List.length_map]
    exact k _ _ _ _ _ q hA Kp.refl rfl
  · obtain ⟨v, rfl, e⟩ := r.one_inv
    obtain ⟨p, ws, rfl, h1, h2⟩ := asS_at hA e h
    refine ⟨_, ws.length, rfl, ?_, ?_⟩
    · rcases h1 with h1 | h1
      · exact .inl ⟨_, h1, rfl⟩
      · exact .inr ⟨_, h1, rfl⟩
    · rw [h2.length]; exact k _ _ _ _ _ q hA Kp.refl rfl
theorem e_len [Jx] (hg : Gl X "len") (hm : X.mg "len" = none) (ha : PA2 X [e] tl tl2) (he : starEach [e] X.env = (false, eval e X.env) :: starEach [] X.env := by rfl) : PE2 X (.Call (.Name "len" p) [e] [] pos) (tCB (rvLen X.K) tl) (dCB dLen tl2) :=
  e_cb call_len rc_len hg hm PySem.boot_len ha (he := he)
/-- int, str, bool of a number -/
def dInt1 : DRC := fun xs μ Q => (∃ i, xs = [.int i] ∧ Q (.int i) μ) ∨ ∃ k, xs = [.bl k] ∧ Q (.int (if k then 1 else 0)) μ
theorem w_int1 {i : Int} (q : Q (.int i) μ) : dInt1 [.int i] μ Q := .inl ⟨i, rfl, q⟩
theorem w_intB {k : Bool} (q : Q (.int (if k then 1 else 0)) μ) : dInt1 [.bl k] μ Q := .inr ⟨k, rfl, q⟩
abbrev rvInt1 : List V → Hp → VK → Prop := fun xs H Q => (∃ i, xs = [.int i] ∧ Q (.int i) H) ∨ ∃ k, xs = [.bl k] ∧ Q (.int (if k then 1 else 0)) H
theorem rc_int1 [Jx] : RC K rvInt1 dInt1 := fun xs μ Q2 q I H vs hA r Q k => by
  rcases q with ⟨i, rfl, q⟩ | ⟨i, rfl, q⟩
  · obtain ⟨v, rfl, e⟩ := r.one_inv
    cases (show v = _ from e)
    exact .inl ⟨_, rfl, k _ _ _ _ _ q hA Kp.refl rfl⟩
  · obtain ⟨v, rfl, e⟩ := r.one_inv
    cases (show v = _ from e)
    exact .inr ⟨_, rfl, k _ _ _ _ _ q hA Kp.refl rfl⟩
theorem e_int1 [Jx] (hg : Gl X "int") (hm : X.mg "int" = none) (ha : PA2 X [e] tl tl2) (hv : bootBuiltins "int" = some (.type "int") := by decide +kernel) (he : starEach [e] X.env = (false, eval e X.env) :: starEach [] X.env := by rfl) : PE2 X (.Call (.Name "int" p) [e] [] pos) (tCB rvInt1 tl) (dCB dInt1 tl2) :=
  e_cty call_int1 rc_int1 hg hm hv ha (he := he)
def dStrI : DRC := fun xs μ Q => ∃ i : Int, xs = [.int i] ∧ i.natAbs.log2 < 1920 ∧ Q (.str (toString i)) μ
theorem w_strI {i : Int} (h : i.natAbs.log2 < 1920) (q : Q (.str (toString i)) μ) : dStrI [.int i] μ Q := ⟨i, rfl, h, q⟩
abbrev rvStrI : List V → Hp → VK → Prop := fun xs H Q => ∃ i : Int, xs = [.int i] ∧ i.natAbs.log2 < 1920 ∧ Q (.str (toString i)) H
theorem e_strI [Jx] (hg : Gl X "str") (hm : X.mg "str" = none) (ha : PA2 X [e] tl tl2) (hv : bootBuiltins "str" = some (.type "str") := by decide +kernel) (he : starEach [e] X.env = (false, eval e X.env) :: starEach [] X.env := by rfl) : PE2 X (.Call (.Name "str" p) [e] [] pos) (tCB rvStrI tl) (dCB dStrI tl2) :=
  e_cty call_str_int (fun xs μ Q2 q I H vs hA r Q k => by
    obtain ⟨i, rfl, h, q⟩ := q
    obtain ⟨v, rfl, e⟩ := r.one_inv
    cases (show v = _ from e)
    exact ⟨_, rfl, h, k _ _ _ _ _ q hA Kp.refl rfl⟩) hg hm hv ha (he := he)
/-- max, min of two -/
def dMax2 : DRC := fun xs μ Q => ∃ i j, xs = [.int i, .int j] ∧ Q (.int (if j > i then j else i)) μ
def dMin2 : DRC := fun xs μ Q => ∃ i j, xs = [.int i, .int j] ∧ Q (.int (if j < i then j else i)) μ
theorem w_max2 {i j : Int} (q : Q (.int (if j > i then j else i)) μ) : dMax2 [.int i, .int j] μ Q := ⟨i, j, rfl, q⟩
theorem w_min2 {i j : Int} (q : Q (.int (if j < i then j else i)) μ) : dMin2 [.int i, .int j] μ Q := ⟨i, j, rfl, q⟩
abbrev rvMax2 : List V → Hp → VK → Prop := fun xs H Q => ∃ i j, xs = [.int i, .int j] ∧ Q (.int (if j > i then j else i)) H
abbrev rvMin2 : List V → Hp → VK → Prop := fun xs H Q => ∃ i j, xs = [.int i, .int j] ∧ Q (.int (if j < i then j else i)) H
theorem e_max2 [Jx] (hg : Gl X "max") (hm : X.mg "max" = none) (ha : PA2 X [a, b] tl tl2) (hc : X.calm = true := by rfl) (hv : bootBuiltins "max" = some (.builtin "max") := by decide +kernel) (he : starEach [a, b] X.env = (false, eval a X.env) :: starEach [b] X.env := by rfl) (hpl : (backTo pos (starEach [b] X.env)).any (·.1) = false := by rfl) :
    PE2 X (.Call (.Name "max" p) [a, b] [] pos) (tCB rvMax2 tl) (dCB dMax2 tl2) := e_cb (call_max2 hc) (fun xs μ Q2 q I H vs hA r Q k => by
    obtain ⟨i, j, rfl, q⟩ := q
    obtain ⟨v, w, rfl, e1, e2⟩ := r.two_inv
    cases (show v = _ from e1)
    cases (show w = _ from e2)
    exact ⟨i, j, rfl, k _ _ _ _ _ q hA Kp.refl rfl⟩) hg hm hv ha (he := he) (hpl := hpl)
theorem e_min2 [Jx] (hg : Gl X "min") (hm : X.mg "min" = none) (ha : PA2 X [a, b] tl tl2) (hc : X.calm = true := by rfl) (hv : bootBuiltins "min" = some (.builtin "min") := by decide +kernel) (he : starEach [a, b] X.env = (false, eval a X.env) :: starEach [b] X.env := by rfl) (hpl : (backTo pos (starEach [b] X.env)).any (·.1) = false := by rfl) :
    PE2 X (.Call (.Name "min" p) [a, b] [] pos) (tCB rvMin2 tl) (dCB dMin2 tl2) := e_cb (call_min2 hc) (fun xs μ Q2 q I H vs hA r Q k => by
    obtain ⟨i, j, rfl, q⟩ := q
    obtain ⟨v, w, rfl, e1, e2⟩ := r.two_inv
    cases (show v = _ from e1)
    cases (show w = _ from e2)
    exact ⟨i, j, rfl, k _ _ _ _ _ q hA Kp.refl rfl⟩) hg hm hv ha (he := he) (hpl := hpl)
/-- isinstance(x, T), T a built-in type -/
def tyD (μ : Mu) : D → Option String
  | .non => some "NoneType" | .bl _ => some "bool" | .int _ => some "int" | .str _ => some "str" | .tup _ => some "tuple" | .lst _ => some "list"
  | .adr a => match μ a with
    | some (.lst _) => some "list"
    | some (.dk _) => some "dict"
    | _ => none
  | _ => none
theorem tyD_ok [Jx] {I H : Hp} {d : D} {v : V} {t : String} (hA : At K μ I H) (r : Rp K I d v) (h : tyD μ d = some t) : TyX K H v (.type t) := by
  cases d with
  | non => cases (show v = _ from r); cases h; exact .base .non
  | bl b => cases (show v = _ from r); cases h; exact .base (.bl b)
  | int i => cases (show v = _ from r); cases h; exact .base (.int i)
  | str z => cases (show v = _ from r); cases h; exact .base (.str z)
  | tup ds =>
    obtain ⟨p, vs, rfl, h1, _⟩ := r
    cases h
    rcases h1 with (h1 | ⟨o, h1⟩) | ⟨o, _, _, h1, h2, _⟩
    · exact .base (.tup (hA.sub _ _ h1))
    · exact .fTuple (hA.sub _ _ h1)
    · exact .kTuple h1 h2
  | lst ds =>
    obtain ⟨p, vs, rfl, h1, _⟩ := r
    cases h
    exact .base (.lst (hA.sub _ _ h1))
  | adr p =>
    cases (show v = _ from r)
    cases q : μ p with
    | none => simp [tyD, q] at h
    | some m =>
      obtain ⟨_, ob, ho, hr⟩ := hA.own p _ q
      cases m with
      | lst ds =>
        have e : "list" = t := by simpa [tyD, q] using h
        subst e
        obtain ⟨vs, rfl, _⟩ := hr
        exact .base (.lst ho)
      | dk kvs =>
        have e : "dict" = t := by simpa [tyD, q] using h
        subst e
        obtain ⟨vs, rfl, _⟩ := hr
        exact .base (.dK ho)
      | ins _ _ => simp [tyD, q] at h
  | ty _ => cases h
  | obj _ _ _ => cases h
  | scr _ => cases h
def dIsi : DRC := fun xs μ Q => ∃ x t c b, xs = [x, .ty c] ∧ tyD μ x = some t ∧ kitB t c = some b ∧ Q (.bl b) μ
theorem w_isi {x : D} {t c : String} {b : Bool} (h1 : tyD μ x = some t) (h2 : kitB t c = some b) (q : Q (.bl b) μ) : dIsi [x, .ty c] μ Q := ⟨x, t, c, b, rfl, h1, h2, q⟩
theorem rc_isi [Jx] : RC K (rIsi K) dIsi := fun xs μ Q2 q I H vs hA r Q k => by
  obtain ⟨x, t, c, b, rfl, h1, h2, q⟩ := q
  obtain ⟨v, w, rfl, e1, e2⟩ := r.two_inv
  cases (show w = _ from e2)
  exact ⟨v, .ty c, .type t, .type c, b, rfl, .ty c, tyD_ok hA e1 h1, kit_ty h2, k _ _ _ _ _ q hA Kp.refl rfl⟩
theorem e_isi [Jx] (hg : Gl X "isinstance") (hm : X.mg "isinstance" = none) (ha : PA2 X [a, b] tl tl2) (hv : bootBuiltins "isinstance" = some (.builtin "isinstance") := by decide +kernel) (he : starEach [a, b] X.env = (false, eval a X.env) :: starEach [b] X.env := by rfl) (hpl : (backTo pos (starEach [b] X.env)).any (·.1) = false := by rfl) :
    PE2 X (.Call (.Name "isinstance" p) [a, b] [] pos) (tCB (rIsi X.K) tl) (dCB dIsi tl2) := e_cb call_isi rc_isi hg hm hv ha (he := he) (hpl := hpl)
theorem isi_ii : kitB "int" "int" = some true := by decide +kernel
theorem isi_bi : kitB "bool" "int" = some true := by decide +kernel
theorem isi_si : kitB "str" "int" = some false := by decide +kernel
theorem isi_ni : kitB "NoneType" "int" = some false := by decide +kernel
theorem isi_li : kitB "list" "int" = some false := by decide +kernel
theorem isi_ti : kitB "tuple" "int" = some false := by decide +kernel
theorem isi_di : kitB "dict" "int" = some false := by decide +kernel
theorem isi_ib : kitB "int" "bool" = some false := by decide +kernel
theorem isi_bb : kitB "bool" "bool" = some true := by decide +kernel
theorem isi_sb : kitB "str" "bool" = some false := by decide +kernel
theorem isi_nb : kitB "NoneType" "bool" = some false := by decide +kernel
theorem isi_lb : kitB "list" "bool" = some false := by decide +kernel
theorem isi_tb : kitB "tuple" "bool" = some false := by decide +kernel
theorem isi_db : kitB "dict" "bool" = some false := by decide +kernel
theorem isi_is : kitB "int" "str" = some false := by decide +kernel
theorem isi_bs : kitB "bool" "str" = some false := by decide +kernel
theorem isi_ss : kitB "str" "str" = some true := by decide +kernel
theorem isi_ns : kitB "NoneType" "str" = some false := by decide +kernel
theorem isi_ls : kitB "list" "str" = some false := by decide +kernel
theorem isi_ts : kitB "tuple" "str" = some false := by decide +kernel
theorem isi_ds : kitB "dict" "str" = some false := by decide +kernel
theorem isi_il : kitB "int" "list" = some false := by decide +kernel
theorem isi_bl : kitB "bool" "list" = some false := by decide +kernel
theorem isi_sl : kitB "str" "list" = some false := by decide +kernel
theorem isi_nl : kitB "NoneType" "list" = some false := by decide +kernel
theorem isi_ll : kitB "list" "list" = some true := by decide +kernel
theorem isi_tl : kitB "tuple" "list" = some false := by decide +kernel
theorem isi_dl : kitB "dict" "list" = some false := by decide +kernel
theorem isi_it : kitB "int" "tuple" = some false := by decide +kernel
theorem isi_bt : kitB "bool" "tuple" = some false := by decide +kernel
theorem isi_st : kitB "str" "tuple" = some false := by decide +kernel
theorem isi_nt : kitB "NoneType" "tuple" = some false := by decide +kernel
theorem isi_lt : kitB "list" "tuple" = some false := by decide +kernel
theorem isi_tt : kitB "tuple" "tuple" = some true := by decide +kernel
theorem isi_dt : kitB "dict" "tuple" = some false := by decide +kernel
/-- list(x), tuple(x) -/
def dListOf : DRC := fun xs μ Q => ∃ x ds, xs = [x] ∧ asS μ x = some ds ∧ ∀ p, μ p = none → Q (.adr p) (mup μ p (.lst ds))
theorem w_listOf {x : D} {ds : List D} (h : asS μ x = some ds) (q : ∀ p, μ p = none → Q (.adr p) (mup μ p (.lst ds))) : dListOf [x] μ Q := ⟨x, ds, rfl, h, q⟩
abbrev rvListOf (K : PySem.W.Frag) : List V → Hp → VK → Prop := fun xs H Q => ∃ p ys, xs = [.ref p] ∧ (SqL K H p ys ∨ SqT K H p ys) ∧ ∀ l, H l = none → Q (.ref l) (upd H l (.lst ys))
theorem e_listOf [Jx] (hg : Gl X "list") (hm : X.mg "list" = none) (ha : PA2 X [e] tl tl2) (hv : bootBuiltins "list" = some (.type "list") := by decide +kernel) (he : starEach [e] X.env = (false, eval e X.env) :: starEach [] X.env := by rfl) : PE2 X (.Call (.Name "list" p) [e] [] pos) (tCB (rvListOf X.K) tl) (dCB dListOf tl2) :=
  e_cty call_list_of (fun xs μ Q2 q I H vs hA r Q k => by
    obtain ⟨x, ds, rfl, h, q⟩ := q
    obtain ⟨v, rfl, e⟩ := r.one_inv
    obtain ⟨p, ws, rfl, h1, h2⟩ := asS_at hA e h
    exact ⟨p, ws, rfl, h1, fun l hl => k _ _ _ _ _ (q l (hA.noM hl)) (hA.got hl ⟨ws, rfl, h2⟩) (Kp.got hl) rfl⟩) hg hm hv ha (he := he)
def dTupOf : DRC := fun xs μ Q => ∃ x ds, xs = [x] ∧ asS μ x = some ds ∧ Q (.tup ds) μ
theorem w_tupOf {x : D} {ds : List D} (h : asS μ x = some ds) (q : Q (.tup ds) μ) : dTupOf [x] μ Q := ⟨x, ds, rfl, h, q⟩
abbrev rvTupOf (K : PySem.W.Frag) : List V → Hp → VK → Prop := fun xs H Q => ∃ p ys, xs = [.ref p] ∧ ((SqL K H p ys ∧ ∀ l, H l = none → Q (.ref l) (upd H l (.tup ys))) ∨ (SqT K H p ys ∧ Q (.ref p) H))
theorem e_tupOf [Jx] (hg : Gl X "tuple") (hm : X.mg "tuple" = none) (ha : PA2 X [e] tl tl2) (hv : bootBuiltins "tuple" = some (.type "tuple") := by decide +kernel) (he : starEach [e] X.env = (false, eval e X.env) :: starEach [] X.env := by rfl) : PE2 X (.Call (.Name "tuple" p) [e] [] pos) (tCB (rvTupOf X.K) tl) (dCB dTupOf tl2) :=
  e_cty call_tuple_of (fun xs μ Q2 q I H vs hA r Q k => by
    obtain ⟨x, ds, rfl, h, q⟩ := q
    obtain ⟨v, rfl, e⟩ := r.one_inv
    cases x with
    | tup es =>
      cases (show some es = some ds from h)
      obtain ⟨p, ws, rfl, h1, h2⟩ := e
      exact ⟨p, ws, rfl, .inr ⟨(show Exx I H from hA.sub).sqt h1, k _ _ _ _ _ q hA Kp.refl ⟨p, ws, rfl, h1, h2⟩⟩⟩
    | lst es =>
      obtain ⟨p, ws, rfl, h1, h2⟩ := asL_at hA e h
      exact ⟨p, ws, rfl, .inl ⟨SqL.of h1, go_newT q hA h2 k⟩⟩
    | adr y =>
      obtain ⟨p, ws, rfl, h1, h2⟩ := asL_at hA e h
      exact ⟨p, ws, rfl, .inl ⟨SqL.of h1, go_newT q hA h2 k⟩⟩
    | non => cases h
    | bl _ => cases h
    | int _ => cases h
    | str _ => cases h
    | ty _ => cases h
    | obj _ _ _ => cases h
    | scr _ => cases h) hg hm hv ha (he := he)

/-! ### methods of lists and texts -/
abbrev DRM := D → List D → Mu → DK → Prop
def RM [Jx] (K : PySem.W.Frag) (r : V → List V → Hp → VK → Prop) (r2 : DRM) : Prop := ∀ x xs μ Q2, r2 x xs μ Q2 → ∀ I H v vs, At K μ I H → Rp K I x v → RpA K I xs vs → ∀ Q : VK, Go K I μ H Q2 Q → r v vs H Q
/-- its type -/
def tyO (μ : Mu) (T : String) (x : D) : Prop := (T = "str" ∧ ∃ z, x = .str z) ∨ (T = "list" ∧ ∃ ds, asL μ x = some ds)
theorem tyO_ok [Jx] {I H : Hp} {x : D} {v : V} {T : String} (hA : At K μ I H) (r : Rp K I x v) (h : tyO μ T x) : tyV K T v H := by
  rcases h with ⟨rfl, z, rfl⟩ | ⟨rfl, ds, h⟩
  · cases (show v = _ from r); exact rfl
  · obtain ⟨p, vs, rfl, h1, _⟩ := asL_at hA r h
    exact .inl ⟨rfl, vs, SqL.of h1⟩
def dBM0 (T : String) (r : DRM) (to : TE2) : TE2 := fun ρ μ Q => to ρ μ fun x μ1 => tyO μ1 T x ∧ r x [] μ1 Q
def dBM (T : String) (r : DRM) (to : TE2) (t : TA2) : TE2 := fun ρ μ Q => to ρ μ fun x μ1 => tyO μ1 T x ∧ t ρ μ1 fun xs μ2 => r x xs μ2 Q
def dTy (T : String) (x : D) (μ : Mu) (P : Prop) : Prop := tyO μ T x ∧ P
theorem w_tyS {z : Str} {P : Prop} (h : P) : dTy "str" (.str z) μ P := ⟨.inl ⟨rfl, z, rfl⟩, h⟩
theorem w_tyL {x : D} {ds : List D} {P : Prop} (e : asL μ x = some ds) (h : P) : dTy "list" x μ P := ⟨.inr ⟨rfl, ds, e⟩, h⟩
theorem w_bm0 {T : String} {r : DRM} (h : to2 ρ μ fun x μ1 => dTy T x μ1 (r x [] μ1 Q)) : dBM0 T r to2 ρ μ Q := h
theorem w_bm {T : String} {r : DRM} (h : to2 ρ μ fun x μ1 => dTy T x μ1 (tl2 ρ μ1 fun xs μ2 => r x xs μ2 Q)) : dBM T r to2 tl2 ρ μ Q := h
theorem e_bm0 [Jx] {T id : String} {name : Str} {r : V → List V → Hp → VK → Prop} {r2 : DRM} (pa : PlainAttrs T) (slot : Slot T name id) (hty : typeOf (.builtin id) = pure (.type "method_descriptor")) (hm : MtR X id r) (hr : RM X.K r r2) (ho : PE2 X o to to2)
    (hbase : attributeBase o name X.env (eval o X.env) = eval o X.env := by rfl) (hline : (apos.endLine == cpos.line) = true := by rfl) : PE2 X (.Call (.Attribute o name apos) [] [] cpos) (tBM0 X.K T r to) (dBM0 T r2 to2) :=
  ⟨pe_bm0 pa slot hty hm ho.pe hbase hline, fun ρ μ Q2 q I σ H hA hS Q g => ho.re ρ μ _ q I σ H hA hS _ fun d μ1 v I1 H1 q1 a1 k1 r1 => ⟨tyO_ok a1 r1 q1.1, hr d [] μ1 Q2 q1.2 I1 H1 v [] a1 r1 rfl Q (g.past k1)⟩⟩
theorem e_bm [Jx] {T id : String} {name : Str} {r : V → List V → Hp → VK → Prop} {r2 : DRM} (pa : PlainAttrs T) (slot : Slot T name id) (hty : typeOf (.builtin id) = pure (.type "method_descriptor")) (hm : MtR X id r) (hr : RM X.K r r2) (ho : PE2 X o to to2) (ha : PA2 X (e :: es) tl tl2)
    (hbase : attributeBase o name X.env (eval o X.env) = eval o X.env := by rfl)
    (hfew : ((backTo cpos (starEach (e :: es) X.env)).all (fun x => !x.1) && (backToKw cpos (keywordEach [] X.env)).all (fun x => x.1.isSome)
      && decide ((e :: es).length + ([] : List Keyword).length + (if ([] : List Keyword).isEmpty then 0 else 1) < 30)) = true := by rfl)
    (hline : (apos.endLine == cpos.line) = true := by rfl) (hs : starEach (e :: es) X.env = (false, eval e X.env) :: starEach es X.env := by rfl) (hplain : (backTo cpos (starEach es X.env)).any (·.1) = false := by rfl) :
    PE2 X (.Call (.Attribute o name apos) (e :: es) [] cpos) (tBM X.K T r to tl) (dBM T r2 to2 tl2) :=
  ⟨pe_bm pa slot hty hm ho.pe ha.pa hbase hfew hline hs hplain, fun ρ μ Q2 q I σ H hA hS Q g => ho.re ρ μ _ q I σ H hA hS _ fun d μ1 v I1 H1 q1 a1 k1 r1 =>
    ⟨tyO_ok a1 r1 q1.1, ha.re ρ μ1 _ q1.2 I1 σ H1 a1 (hS.mono k1.ex) _ fun ds μ2 vs I2 H2 q2 a2 k2 r2 => hr d ds μ2 Q2 q2 I2 H2 v vs a2 (r1.mono k2.ex) r2 Q (g.past (k1.trans k2))⟩⟩
/-- append, extend, clear, pop, reverse of an owned list -/
def dApp : DRM := fun x xs μ Q => ∃ p ds y, x = .adr p ∧ xs = [y] ∧ μ p = some (.lst ds) ∧ ds.length < sizeLine ∧ Q .non (mup μ p (.lst (ds ++ [y])))
theorem w_app {p : Addr} {ds : List D} {y : D} (h : μ p = some (.lst ds)) (z : ds.length < sizeLine) (q : Q .non (mup μ p (.lst (ds ++ [y])))) : dApp (.adr p) [y] μ Q := ⟨p, ds, y, rfl, rfl, h, z, q⟩
theorem rm_app [Jx] : RM K rAppend dApp := fun x xs μ Q2 q I H v vs hA rx rs Q k => by
  obtain ⟨p, ds, y, rfl, rfl, h, z, q⟩ := q
  cases (show v = _ from rx)
  obtain ⟨w, rfl, rw'⟩ := rs.one_inv
  obtain ⟨_, ob, ho, us, rfl, hr⟩ := hA.own p _ h
  exact ⟨p, us, w, rfl, rfl, ho, by rw [hr.length]; exact z, k _ _ _ _ _ q (hA.put h ⟨_, rfl, hr.append (RpA.one rw')⟩) (Kp.put h) rfl⟩
def dExtend : DRM := fun x xs μ Q => ∃ p ds y es, x = .adr p ∧ xs = [y] ∧ μ p = some (.lst ds) ∧ asL μ y = some es ∧ ds.length + es.length ≤ sizeLine ∧ Q .non (mup μ p (.lst (ds ++ es)))
theorem w_extend {p : Addr} {ds es : List D} {y : D} (h : μ p = some (.lst ds)) (h' : asL μ y = some es) (z : ds.length + es.length ≤ sizeLine) (q : Q .non (mup μ p (.lst (ds ++ es)))) : dExtend (.adr p) [y] μ Q := ⟨p, ds, y, es, rfl, rfl, h, h', z, q⟩
theorem rm_extend [Jx] : RM K rExtend dExtend := fun x xs μ Q2 q I H v vs hA rx rs Q k => by
  obtain ⟨p, ds, y, es, rfl, rfl, h, h', z, q⟩ := q
  cases (show v = _ from rx)
  obtain ⟨w, rfl, rw'⟩ := rs.one_inv
  obtain ⟨_, ob, ho, us, rfl, hr⟩ := hA.own p _ h
  obtain ⟨p', ws, rfl, h1, h2⟩ := asL_at hA rw' h'
  exact ⟨p, p', us, ws, rfl, rfl, ho, h1, by rw [hr.length, h2.length]; exact z, k _ _ _ _ _ q (hA.put h ⟨_, rfl, hr.append h2⟩) (Kp.put h) rfl⟩
def dClear : DRM := fun x xs μ Q => ∃ p ds, x = .adr p ∧ xs = [] ∧ μ p = some (.lst ds) ∧ Q .non (mup μ p (.lst []))
theorem w_clear {p : Addr} {ds : List D} (h : μ p = some (.lst ds)) (q : Q .non (mup μ p (.lst []))) : dClear (.adr p) [] μ Q := ⟨p, ds, rfl, rfl, h, q⟩
theorem rm_clear [Jx] : RM K rClear dClear := fun x xs μ Q2 q I H v vs hA rx rs Q k => by
  obtain ⟨p, ds, rfl, rfl, h, q⟩ := q
  cases (show v = _ from rx)
  cases (show vs = _ from rs)
  obtain ⟨_, ob, ho, us, rfl, hr⟩ := hA.own p _ h
  exact ⟨p, us, rfl, rfl, ho, k _ _ _ _ _ q (hA.put h ⟨_, rfl, rfl⟩) (Kp.put h) rfl⟩
def dPop : DRM := fun x xs μ Q => ∃ p ds d, x = .adr p ∧ xs = [] ∧ μ p = some (.lst ds) ∧ ds[ds.length - 1]? = some d ∧ Q d (mup μ p (.lst ds.dropLast))
theorem w_pop {p : Addr} {ds : List D} {d : D} (h : μ p = some (.lst ds)) (e : ds[ds.length - 1]? = some d) (q : Q d (mup μ p (.lst ds.dropLast))) : dPop (.adr p) [] μ Q := ⟨p, ds, d, rfl, rfl, h, e, q⟩
theorem rm_pop [Jx] : RM K rPop dPop := fun x xs μ Q2 q I H v vs hA rx rs Q k => by
  obtain ⟨p, ds, d, rfl, rfl, h, e, q⟩ := q
  cases (show v = _ from rx)
  cases (show vs = _ from rs)
  obtain ⟨_, ob, ho, us, rfl, hr⟩ := hA.own p _ h
  obtain ⟨w, e1, e2⟩ := hr.get e
  refine ⟨p, us, w, rfl, rfl, ho, by rw [hr.length]; exact e1, k _ _ _ _ _ q (hA.put h ⟨_, rfl, ?_⟩) (Kp.put h) e2⟩
  rw [List.dropLast_eq_take, List.dropLast_eq_take, hr.length]
  exact hr.take _
def dReverse : DRM := fun x xs μ Q => ∃ p ds, x = .adr p ∧ xs = [] ∧ μ p = some (.lst ds) ∧ Q .non (mup μ p (.lst ds.reverse))
theorem w_reverse {p : Addr} {ds : List D} (h : μ p = some (.lst ds)) (q : Q .non (mup μ p (.lst ds.reverse))) : dReverse (.adr p) [] μ Q := ⟨p, ds, rfl, rfl, h, q⟩
theorem rm_reverse [Jx] : RM K rReverse dReverse := fun x xs μ Q2 q I H v vs hA rx rs Q k => by
  obtain ⟨p, ds, rfl, rfl, h, q⟩ := q
  cases (show v = _ from rx)
  cases (show vs = _ from rs)
  obtain ⟨_, ob, ho, us, rfl, hr⟩ := hA.own p _ h
  exact ⟨p, us, rfl, rfl, ho, k _ _ _ _ _ q (hA.put h ⟨_, rfl, hr.reverse⟩) (Kp.put h) rfl⟩
theorem MtM.toR {id : String} {r : V → List V → Hp → VK → Prop} (h : MtR X id r) : MtR X id r := h
theorem e_app [Jx] (ho : PE2 X o to to2) (ha : PA2 X [e] tl tl2) (hbase : attributeBase o "append" X.env (eval o X.env) = eval o X.env := by rfl)
    (hfew : ((backTo cpos (starEach [e] X.env)).all (fun x => !x.1) && (backToKw cpos (keywordEach [] X.env)).all (fun x => x.1.isSome) && decide ([e].length + ([] : List Keyword).length + (if ([] : List Keyword).isEmpty then 0 else 1) < 30)) = true := by rfl)
    (hline : (apos.endLine == cpos.line) = true := by rfl) (hs : starEach [e] X.env = (false, eval e X.env) :: starEach [] X.env := by rfl) : PE2 X (.Call (.Attribute o "append" apos) [e] [] cpos) (tBM X.K "list" rAppend to tl) (dBM "list" dApp to2 tl2) :=
  e_bm PySem.F.plainAttrs_list PySem.F.slot_list_append PySem.F.type_list_append mt_append rm_app ho ha hbase hfew hline hs
theorem e_extend [Jx] (ho : PE2 X o to to2) (ha : PA2 X [e] tl tl2) (hbase : attributeBase o "extend" X.env (eval o X.env) = eval o X.env := by rfl)
    (hfew : ((backTo cpos (starEach [e] X.env)).all (fun x => !x.1) && (backToKw cpos (keywordEach [] X.env)).all (fun x => x.1.isSome) && decide ([e].length + ([] : List Keyword).length + (if ([] : List Keyword).isEmpty then 0 else 1) < 30)) = true := by rfl)
    (hline : (apos.endLine == cpos.line) = true := by rfl) (hs : starEach [e] X.env = (false, eval e X.env) :: starEach [] X.env := by rfl) : PE2 X (.Call (.Attribute o "extend" apos) [e] [] cpos) (tBM X.K "list" rExtend to tl) (dBM "list" dExtend to2 tl2) :=
  e_bm PySem.F.plainAttrs_list PySem.F.slot_list_extend PySem.F.type_list_extend mt_extend rm_extend ho ha hbase hfew hline hs
theorem e_clear [Jx] (ho : PE2 X o to to2) (hbase : attributeBase o "clear" X.env (eval o X.env) = eval o X.env := by rfl) (hline : (apos.endLine == cpos.line) = true := by rfl) : PE2 X (.Call (.Attribute o "clear" apos) [] [] cpos) (tBM0 X.K "list" rClear to) (dBM0 "list" dClear to2) :=
  e_bm0 PySem.F.plainAttrs_list PySem.F.slot_list_clear PySem.F.type_list_clear mt_clear rm_clear ho hbase hline
theorem e_pop [Jx] (ho : PE2 X o to to2) (hbase : attributeBase o "pop" X.env (eval o X.env) = eval o X.env := by rfl) (hline : (apos.endLine == cpos.line) = true := by rfl) : PE2 X (.Call (.Attribute o "pop" apos) [] [] cpos) (tBM0 X.K "list" rPop to) (dBM0 "list" dPop to2) :=
  e_bm0 PySem.F.plainAttrs_list PySem.F.slot_list_pop PySem.F.type_list_pop mt_pop rm_pop ho hbase hline
theorem e_reverse [Jx] (ho : PE2 X o to to2) (hbase : attributeBase o "reverse" X.env (eval o X.env) = eval o X.env := by rfl) (hline : (apos.endLine == cpos.line) = true := by rfl) : PE2 X (.Call (.Attribute o "reverse" apos) [] [] cpos) (tBM0 X.K "list" rReverse to) (dBM0 "list" dReverse to2) :=
  e_bm0 PySem.F.plainAttrs_list PySem.F.slot_list_reverse PySem.F.type_list_reverse mt_reverse rm_reverse ho hbase hline
/-- split, join -/
def dM1 (r : D → D → Mu → DK → Prop) (to te : TE2) : TE2 := fun ρ μ Q => to ρ μ fun x μ1 => dTy "str" x μ1 (te ρ μ1 fun y μ2 => r x y μ2 Q)
theorem w_m1 {r : D → D → Mu → DK → Prop} (h : to2 ρ μ fun x μ1 => dTy "str" x μ1 (te2 ρ μ1 fun y μ2 => r x y μ2 Q)) : dM1 r to2 te2 ρ μ Q := h
theorem re_m1 [Jx] {r : V → List V → Hp → VK → Prop} {r2 : D → D → Mu → DK → Prop} (hr : ∀ x y μ Q2, r2 x y μ Q2 → ∀ I H v u, At K μ I H → Rp K I x v → Rp K I y u → ∀ Q : VK, Go K I μ H Q2 Q → r v [u] H Q) (ho : RE K to to2) (he : RE K te te2) : RE K (tM1 r to te) (dM1 r2 to2 te2) := fun ρ μ Q2 q I σ H hA hS Q g =>
  ho ρ μ _ q I σ H hA hS _ fun d μ1 v I1 H1 q1 a1 k1 r1 => by
    obtain ⟨h, q1⟩ := q1
    rcases h with ⟨_, z, rfl⟩ | ⟨h, _⟩
    · exact ⟨⟨z, r1⟩, he ρ μ1 _ q1 I1 σ H1 a1 (hS.mono k1.ex) _ fun y μ2 u I2 H2 q2 a2 k2 r2 => hr _ y μ2 Q2 q2 I2 H2 v u a2 (r1.mono k2.ex) r2 Q (g.past (k1.trans k2))⟩
    · exact absurd h (by decide)
def dSplit : D → D → Mu → DK → Prop := fun x y μ Q => ∃ a b, x = .str a ∧ y = .str b ∧ (b.length == 0) = false ∧ a.length + 2 ≤ sizeLine ∧ ∀ p, μ p = none → Q (.adr p) (mup μ p (.lst ((Txt.split a b).map D.str)))
theorem w_split {a b : Str} (h1 : (b.length == 0) = false) (h2 : a.length + 2 ≤ sizeLine) (q : ∀ p, μ p = none → Q (.adr p) (mup μ p (.lst ((Txt.split a b).map D.str)))) : dSplit (.str a) (.str b) μ Q := ⟨a, b, rfl, rfl, h1, h2, q⟩
abbrev rvSplit : V → List V → Hp → VK → Prop := fun x xs H Q => ∃ a b, x = .str a ∧ xs = [.str b] ∧ (b.length == 0) = false ∧ a.length + 2 ≤ sizeLine ∧ rNewStrs (Txt.split a b) H Q
theorem e_split [Jx] (ho : PE2 X o to to2) (he : PE2 X e te te2) (hs : starEach [e] X.env = [(false, eval e X.env)] := by rfl) (hbase : attributeBase o "split" X.env (eval o X.env) = eval o X.env := by rfl) (hline : (apos.endLine == pos.line) = true := by rfl) :
    PE2 X (.Call (.Attribute o "split" apos) [e] [] pos) (tM1 rvSplit to te) (dM1 dSplit to2 te2) := ⟨pe_split ho.pe he.pe hs hbase hline, re_m1 (fun x y μ Q2 q I H v u hA rx ry Q k => by
    obtain ⟨a, b, rfl, rfl, h1, h2, q⟩ := q
    refine ⟨a, b, rx, by rw [show u = _ from ry], h1, h2, fun p hp => ?_⟩
    exact k _ _ _ _ _ (q p (hA.noM hp)) (hA.got hp ⟨_, rfl, RpA.strs _⟩) (Kp.got hp) rfl) ho.re he.re⟩
/-- the texts of a list -/
def strsOf : List D → Option (List Str)
  | [] => some []
  | .str x :: r => (strsOf r).map (x :: ·)
  | _ => none
theorem strsOf_ok : ∀ {ds : List D} {ys : List Str}, strsOf ds = some ys → ds = ys.map D.str
  | [], _, h => by cases h; rfl
  | .str x :: r, ys, h => by
    unfold strsOf at h
    cases q : strsOf r with
    | none => rw [q] at h; cases h
    | some zs =>
      rw [q] at h
      cases (show some (x :: zs) = some ys from h)
      rw [strsOf_ok q]; rfl
  | .non :: _, _, h => by cases h
  | .bl _ :: _, _, h => by cases h
  | .int _ :: _, _, h => by cases h
  | .ty _ :: _, _, h => by cases h
  | .adr _ :: _, _, h => by cases h
  | .tup _ :: _, _, h => by cases h
  | .lst _ :: _, _, h => by cases h
  | .obj _ _ _ :: _, _, h => by cases h
  | .scr _ :: _, _, h => by cases h
theorem strsOf_map : ∀ ys : List Str, strsOf (ys.map D.str) = some ys
  | [] => rfl
  | y :: ys => by show (strsOf (ys.map D.str)).map (y :: ·) = _; rw [strsOf_map ys]; rfl
def dJoin : D → D → Mu → DK → Prop := fun x y μ Q => ∃ a ds ys, x = .str a ∧ asS μ y = some ds ∧ strsOf ds = some ys ∧ (ys.map (·.length)).sum + ys.length * a.length ≤ 16777216 ∧ Q (.str (Txt.join a ys)) μ
theorem w_join {a : Str} {y : D} {ds : List D} {ys : List Str} (h1 : asS μ y = some ds) (h2 : strsOf ds = some ys) (z : (ys.map (·.length)).sum + ys.length * a.length ≤ 16777216) (q : Q (.str (Txt.join a ys)) μ) : dJoin (.str a) y μ Q := ⟨a, ds, ys, rfl, h1, h2, z, q⟩
abbrev rvJoin (K : PySem.W.Frag) : V → List V → Hp → VK → Prop := fun x xs H Q => ∃ a p, ∃ ys : List Str, x = .str a ∧ xs = [.ref p] ∧ (SqL K H p (ys.map V.str) ∨ SqT K H p (ys.map V.str)) ∧
      (ys.map (·.length)).sum + ys.length * a.length ≤ 16777216 ∧ Q (.str (Txt.join a ys)) H
theorem e_join [Jx] (ho : PE2 X o to to2) (he : PE2 X e te te2) (hs : starEach [e] X.env = [(false, eval e X.env)] := by rfl) (hbase : attributeBase o "join" X.env (eval o X.env) = eval o X.env := by rfl) (hline : (apos.endLine == pos.line) = true := by rfl) :
    PE2 X (.Call (.Attribute o "join" apos) [e] [] pos) (tM1 (rvJoin X.K) to te) (dM1 dJoin to2 te2) := ⟨pe_join ho.pe he.pe hs hbase hline, re_m1 (fun x y μ Q2 q I H v u hA rx ry Q k => by
    obtain ⟨a, ds, ys, rfl, h1, h2, z, q⟩ := q
    obtain ⟨p, vs, rfl, h3, h4⟩ := asS_at hA ry h1
    rw [strsOf_ok h2] at h4
    rw [h4.strs_inv] at h3
    exact ⟨a, p, ys, rx, rfl, h3, z, k _ _ _ _ _ q hA Kp.refl rfl⟩) ho.re he.re⟩
end
end Y

set_option Elab.async false
set_option linter.all false
set_option maxRecDepth 100000
set_option maxHeartbeats 4000000
namespace Y
open PySem PySem.Spec PyProof.Rows L2
/-! ### less is known, more stays -/
def Sh (ρ : Env2) (μ : Mu) (ρ' : Env2) (μ' : Mu) : Prop := ∀ [Jx], ∀ (K : PySem.W.Frag) (I : Hp) (σ : L2.St) (H : Hp), At K μ I H → Slots K I ρ σ → ∃ I', At K μ' I' H ∧ Slots K I' ρ' σ ∧ Kp I μ H I' μ' H
def Cl (P : Env2 → Mu → Prop) (ρ : Env2) (μ : Mu) : Prop := ∃ ρ' μ', Sh ρ μ ρ' μ' ∧ P ρ' μ'
def ShD (d : D) (μ : Mu) (d' : D) (μ' : Mu) : Prop := ∀ [Jx], ∀ (K : PySem.W.Frag) (I H : Hp) (v : V), At K μ I H → Rp K I d v → ∃ I', At K μ' I' H ∧ Kp I μ H I' μ' H ∧ Rp K I' d' v
/-- at a return -/
def RtC (Q : DK) : DK := fun d μ => ∃ d' μ', ShD d μ d' μ' ∧ Q d' μ'
def Sub (μ' μ : Mu) : Prop := ∀ b m, μ' b = some m → μ b = some m
theorem Sub.refl {μ : Mu} : Sub μ μ := fun _ _ h => h
theorem Sub.trans {μ μ1 μ2 : Mu} (a : Sub μ μ1) (b : Sub μ1 μ2) : Sub μ μ2 := fun x m h => b x m (a x m h)
theorem Sub.new {μ : Mu} {p : Addr} {m : MO} (h : μ p = none) : Sub μ (mup μ p m) := fun b n e => by
  have hb : b ≠ p := fun z => by rw [z, h] at e; cases e
  rw [mup_ne hb]; exact e
theorem Sub.mup {μ μ' : Mu} {p : Addr} {m : MO} (h : Sub μ μ') : Sub (mup μ p m) (mup μ' p m) := fun b n e => by
  by_cases hb : b = p
  · subst hb; rw [mup_same] at e ⊢; exact e
  · rw [mup_ne hb] at e ⊢; exact h b n e
theorem Sub.over {μ μ' : Mu} {p : Addr} {m : MO} (h : Sub μ μ') (hp : μ p = none) : Sub μ (Y.mup μ' p m) := fun b n e => by
  have hb : b ≠ p := fun z => by rw [z, hp] at e; cases e
  rw [mup_ne hb]; exact h b n e
theorem Sh.refl {ρ : Env2} {μ : Mu} : Sh ρ μ ρ μ := fun K I σ H a s => ⟨I, a, s, Kp.refl⟩
theorem Sh.less {ρ : Env2} {μ μ' : Mu} (h : Sub μ' μ) : Sh ρ μ ρ μ' := fun K I σ H a s => ⟨I, a.less h, s, Kp.less h⟩
theorem Sh.trans {ρ ρ1 ρ2 : Env2} {μ μ1 μ2 : Mu} (a : Sh ρ μ ρ1 μ1) (b : Sh ρ1 μ1 ρ2 μ2) : Sh ρ μ ρ2 μ2 := fun K I σ H h s => by
  obtain ⟨I1, a1, s1, k1⟩ := a K I σ H h s
  obtain ⟨I2, a2, s2, k2⟩ := b K I1 σ H a1 s1
  exact ⟨I2, a2, s2, k1.trans k2⟩
/-- slots forgotten -/
def Less : Env2 → Env2 → Prop
  | [], [] => True
  | a :: r, b :: s => (b = none ∨ a = b) ∧ Less r s
  | _, _ => False
theorem Less.length : ∀ {ρ ρ' : Env2}, Less ρ ρ' → ρ'.length = ρ.length
  | [], [], _ => rfl
  | _ :: _, _ :: _, h => by show _ + 1 = _ + 1; rw [Less.length h.2]
  | [], _ :: _, h => h.elim
  | _ :: _, [], h => h.elim
theorem Less.get : ∀ {ρ ρ' : Env2} {i : Nat} {d : D}, Less ρ ρ' → ρ'[i]? = some (some d) → ρ[i]? = some (some d)
  | [], [], _, _, _, e => by simp at e
  | a :: _, b :: _, 0, d, h, e => by
    have e' : b = some d := by simpa using e
    rcases h.1 with z | z
    · rw [z] at e'; cases e'
    · simp [z, e']
  | _ :: _, _ :: _, i + 1, d, h, e => by simpa using Less.get h.2 (i := i) (d := d) (by simpa using e)
  | [], _ :: _, _, _, h, _ => h.elim
  | _ :: _, [], _, _, h, _ => h.elim
theorem Sh.forget {ρ ρ' : Env2} {μ : Mu} (h : Less ρ ρ') : Sh ρ μ ρ' μ := fun K I σ H a s => ⟨I, a, ⟨h.length.trans s.1, fun i d e => s.2 i d (h.get e)⟩, Kp.refl⟩
/-- an owned list that a slot holds stays from now on -/
theorem Sh.frz {ρ : Env2} {μ : Mu} {p : Addr} {ds : List D} (i : Nat) (h : μ p = some (.lst ds)) (hi : ρ[i]? = some (some (.adr p))) : Sh ρ μ (ρ.set i (some (.lst ds))) (mdel μ p) := fun K I σ H a s => by
  obtain ⟨hI, ob, ho, vs, rfl, hr⟩ := a.own p _ h
  obtain ⟨v, e1, e2⟩ := s.2 i _ hi
  refine ⟨_, a.frz h ho, ?_, Kp.frz h hI⟩
  have s' := Slots.set (v := v) i (s.mono (Exx.new hI)) (show Rp K (upd I p (.lst vs)) (.lst ds) v from ⟨p, vs, e2, upd_same, hr.mono (Exx.new hI)⟩)
  have e : σ.set i (some v) = σ := by
    apply List.ext_getElem?
    intro j
    by_cases hj : i = j
    · subst hj; rw [e1, List.getElem?_set_self (List.getElem?_eq_some_iff.mp e1).1]
    · rw [List.getElem?_set_ne hj]
  rw [e] at s'; exact s'
theorem Cl.same {P : Env2 → Mu → Prop} {ρ : Env2} {μ : Mu} (h : P ρ μ) : Cl P ρ μ := ⟨ρ, μ, Sh.refl, h⟩
theorem Cl.at {P : Env2 → Mu → Prop} {ρ ρ' : Env2} {μ μ' : Mu} (l : Less ρ ρ') (s : Sub μ' μ) (h : P ρ' μ') : Cl P ρ μ := ⟨ρ', μ', Sh.trans (Sh.forget l) (Sh.less s), h⟩
theorem Cl.less {P : Env2 → Mu → Prop} {ρ : Env2} {μ μ' : Mu} (s : Sub μ' μ) (h : P ρ μ') : Cl P ρ μ := ⟨ρ, μ', Sh.less s, h⟩
theorem Cl.frz {P : Env2 → Mu → Prop} {ρ : Env2} {μ : Mu} {p : Addr} {ds : List D} (i : Nat) (h : μ p = some (.lst ds)) (hi : ρ[i]? = some (some (.adr p))) (q : P (ρ.set i (some (.lst ds))) (mdel μ p)) : Cl P ρ μ := ⟨_, _, Sh.frz i h hi, q⟩
theorem RtC.same {Q : DK} {d : D} {μ : Mu} (h : Q d μ) : RtC Q d μ := ⟨d, μ, fun K I H v a r => ⟨I, a, Kp.refl, r⟩, h⟩
theorem RtC.less {Q : DK} {d : D} {μ μ' : Mu} (s : Sub μ' μ) (h : Q d μ') : RtC Q d μ := ⟨d, μ', fun K I H v a r => ⟨I, a.less s, Kp.less s, r⟩, h⟩
theorem RtC.frz {Q : DK} {p : Addr} {ds : List D} {μ μ' : Mu} (hp : μ p = some (.lst ds)) (s : Sub μ' (mdel μ p)) (h : Q (.lst ds) μ') : RtC Q (.adr p) μ := ⟨_, μ', fun K I H v a r => by
  obtain ⟨hI, ob, ho, vs, rfl, hr⟩ := a.own p _ hp
  exact ⟨_, (a.frz hp ho).less s, (Kp.frz hp hI).trans (Kp.less s), ⟨p, vs, r, upd_same, hr.mono (Exx.new hI)⟩⟩, h⟩
section
variable {X : Cx} {K : PySem.W.Frag} {a b c e o : Expr} {es rest : List Expr} {ta tb tc te to : TE} {ta2 tb2 tc2 te2 to2 : TE2} {pos apos cpos p : Pos} {tt tu : TT} {tt2 tu2 : TT2} {tl : TA} {tl2 : TA2} {x : Str}
variable {ρ : Env2} {μ : Mu} {Q : DK} {T F : Mu → Prop} {st : Stmt} {sts sts' : List Stmt} {ts tz : TS} {ts2 tz2 : TS2} {D2 : Ends2}
theorem Slots.less {I : Hp} {σ : L2.St} (h : Slots K I ρ σ) {ρ' : Env2} (l : Less ρ ρ') : Slots K I ρ' σ := ⟨l.length.trans h.1, fun i d e => h.2 i d (l.get e)⟩

/-! ### targets -/
abbrev TG2 := D → Env2 → Mu → (Env2 → Mu → Prop) → Prop
abbrev TGs2 := List D → Env2 → Mu → (Env2 → Mu → Prop) → Prop
def RG [Jx] (K : PySem.W.Frag) (g : TG) (g2 : TG2) : Prop := ∀ d ρ μ Q2, g2 d ρ μ Q2 → ∀ I σ H v, At K μ I H → Slots K I ρ σ → Rp K I d v → ∀ Q : L2.St → Hp → Prop, GoE K I μ H Q2 Q → g v σ H Q
def RGs [Jx] (K : PySem.W.Frag) (g : TGs) (g2 : TGs2) : Prop := ∀ ds ρ μ Q2, g2 ds ρ μ Q2 → ∀ I σ H vs, At K μ I H → Slots K I ρ σ → RpA K I ds vs → ∀ Q : L2.St → Hp → Prop, GoE K I μ H Q2 Q → g vs σ H Q
/-- it changes these slots alone; it is monotone -/
def OnlyG (g : TG) (js : List Nat) : Prop := ∀ v σ H (Q Q' : L2.St → Hp → Prop), (∀ σ2 H2, σ2.length = σ.length → (∀ i, i ∉ js → σ2[i]? = σ[i]?) → Q σ2 H2 → Q' σ2 H2) → g v σ H Q → g v σ H Q'
def OnlyGs (g : TGs) (js : List Nat) : Prop := ∀ v σ H (Q Q' : L2.St → Hp → Prop), (∀ σ2 H2, σ2.length = σ.length → (∀ i, i ∉ js → σ2[i]? = σ[i]?) → Q σ2 H2 → Q' σ2 H2) → g v σ H Q → g v σ H Q'
structure PG2 [Jx] (X : Cx) (t : Expr) (g : TG) (g2 : TG2) (js : List Nat) : Prop where
  pg : PG X t g
  re : RG X.K g g2
  only : OnlyG g js
structure PGs2 [Jx] (X : Cx) (ts : List Expr) (g : TGs) (g2 : TGs2) (js : List Nat) : Prop where
  pg : PGs X ts g
  re : RGs X.K g g2
  only : OnlyGs g js
def gN (i : Nat) : TG2 := fun d ρ μ Q => Q (ρ.set i (some d)) μ
theorem w_gN {i : Nat} {d : D} {QE : Env2 → Mu → Prop} (q : QE (ρ.set i (some d)) μ) : gN i d ρ μ QE := q
theorem re_gN [Jx] (i : Nat) : RG K (gName i) (gN i) := fun d ρ μ Q2 q I σ H v hA hS r Q k => k _ _ _ _ _ q hA (hS.set i r) Kp.refl
theorem only_gN (i : Nat) : OnlyG (gName i) [i] := fun v σ H Q Q' h q => h _ _ List.length_set (fun j hj => List.getElem?_set_ne (by simpa using (fun z : i = j => hj (by simp [z])))) q
theorem g_nm [Jx] {i : Nat} (h : PG X e (gName i)) : PG2 X e (gName i) (gN i) [i] := ⟨h, re_gN i, only_gN i⟩
def gNil2 : TGs2 := fun ds ρ μ Q => ds = [] ∧ Q ρ μ
def gCons2 (t : TG2) (u : TGs2) : TGs2 := fun ds ρ μ Q => ∃ d r, ds = d :: r ∧ t d ρ μ fun ρ1 μ1 => u r ρ1 μ1 Q
theorem w_gNil {QE : Env2 → Mu → Prop} (q : QE ρ μ) : gNil2 [] ρ μ QE := ⟨rfl, q⟩
theorem w_gCons {t : TG2} {u : TGs2} {d : D} {r : List D} {QE : Env2 → Mu → Prop} (h : t d ρ μ fun ρ1 μ1 => u r ρ1 μ1 QE) : gCons2 t u (d :: r) ρ μ QE := ⟨d, r, rfl, h⟩
theorem gs_nil [Jx] : PGs2 X [] gNil gNil2 [] := ⟨pgs_nil, fun ds ρ μ Q2 q I σ H vs hA hS r Q k => by
  obtain ⟨rfl, q⟩ := q
  exact ⟨r, k _ _ _ _ _ q hA hS Kp.refl⟩, fun v σ H Q Q' h q => ⟨q.1, h _ _ rfl (fun _ _ => rfl) q.2⟩⟩
theorem gs_cons [Jx] {t : TG} {t2 : TG2} {u : TGs} {u2 : TGs2} {is js : List Nat} (h1 : PG2 X e t t2 is) (h2 : PGs2 X es u u2 js) (hs : (assignEach (e :: es) X.env).map (·.2) = assign e X.env :: (assignEach es X.env).map (·.2) := by rfl) : PGs2 X (e :: es) (gCons t u) (gCons2 t2 u2) (is ++ js) :=
  ⟨pgs_cons h1.pg h2.pg hs, fun ds ρ μ Q2 q I σ H vs hA hS r Q k => by
    obtain ⟨d, w, rfl, q⟩ := q
    obtain ⟨v, vr, rfl, r1, r2⟩ := r
    exact ⟨v, vr, rfl, h1.re d ρ μ _ q I σ H v hA hS r1 _ fun ρ1 μ1 σ1 I1 H1 q1 a1 s1 k1 => h2.re w ρ1 μ1 Q2 q1 I1 σ1 H1 vr a1 s1 (r2.mono k1.ex) Q (k.past k1)⟩,
   fun v σ H Q Q' h q => by
    obtain ⟨x, r, rfl, q⟩ := q
    refine ⟨x, r, rfl, h1.only x σ H _ _ (fun σ1 H1 l1 n1 z => ?_) q⟩
    refine h2.only r σ1 H1 _ _ (fun σ2 H2 l2 n2 z => h σ2 H2 (l2.trans l1) (fun i hi => ?_) z) z
    rw [List.mem_append, not_or] at hi
    rw [n2 i hi.2, n1 i hi.1]⟩
/-- a, b = a tuple or a list -/
def gUn (n : Nat) (t : TGs2) : TG2 := fun d ρ μ Q => ∃ ds, asS μ d = some ds ∧ ds.length = n ∧ t ds ρ μ Q
theorem w_gUn {n : Nat} {t : TGs2} {d : D} {ds : List D} {QE : Env2 → Mu → Prop} (h : asS μ d = some ds) (l : ds.length = n) (q : t ds ρ μ QE) : gUn n t d ρ μ QE := ⟨ds, h, l, q⟩
theorem w_gUnT {n : Nat} {t : TGs2} {ds : List D} {QE : Env2 → Mu → Prop} (l : ds.length = n) (q : t ds ρ μ QE) : gUn n t (.tup ds) ρ μ QE := ⟨ds, rfl, l, q⟩
def gOr (g h : TG) : TG := fun v σ H Q => g v σ H Q ∨ h v σ H Q
theorem pg_or {g h : TG} (h1 : PG X e g) (h2 : PG X e h) : PG X e (gOr g h) := ⟨fun pins s σ H v u Q I r q => q.elim (h1.run pins s σ H v u Q I r) (h2.run pins s σ H v u Q I r)⟩
theorem g_un [Jx] {k : Nat} {t : TGs} {t2 : TGs2} {js : List Nat} {n : Nat} (hc : X.calm = true) (h : PGs2 X es t t2 js) (hn : (assignEach es X.env).length = n := by rfl) (hst : (assignEach es X.env).findIdx? (·.1) = none := by rfl) :
    PG2 X (.Tuple es k pos) (gOr (gTup X.K n t) (gUnl X.K n t)) (gUn n t2) js := ⟨pg_or (pg_tup hc h.pg hn hst) (pg_unl hc h.pg hn hst), fun d ρ μ Q2 q I σ H v hA hS r Q k => by
    obtain ⟨ds, e, l, q⟩ := q
    obtain ⟨p, vs, rfl, h1, h2⟩ := asS_at hA r e
    have fin := h.re ds ρ μ Q2 q I σ H vs hA hS h2 Q k
    rcases h1 with h1 | h1
    · exact .inr ⟨p, vs, rfl, h1, h2.length.trans l, fin⟩
    · exact .inl ⟨p, vs, rfl, h1, h2.length.trans l, fin⟩,
   fun v σ H Q Q' hh q => by
    rcases q with ⟨p, xs, e, h1, h2, q⟩ | ⟨p, xs, e, h1, h2, q⟩
    · exact .inl ⟨p, xs, e, h1, h2, h.only xs σ H Q Q' hh q⟩
    · exact .inr ⟨p, xs, e, h1, h2, h.only xs σ H Q Q' hh q⟩⟩

/-! ### statements -/
def dNext : TS2 := fun D ρ μ => D.nx ρ μ
def dSeq (t u : TS2) : TS2 := fun D ρ μ => t { D with nx := u D } ρ μ
def dSeqC (t u : TS2) : TS2 := fun D ρ μ => t { D with nx := Cl (u D) } ρ μ
theorem w_next {n b c : Env2 → Mu → Prop} {r : DK} (h : n ρ μ) : dNext ⟨n, r, b, c⟩ ρ μ := h
theorem w_seq {n b c : Env2 → Mu → Prop} {r : DK} (h : ts2 ⟨tz2 ⟨n, r, b, c⟩, r, b, c⟩ ρ μ) : dSeq ts2 tz2 ⟨n, r, b, c⟩ ρ μ := h
theorem w_seqC {n b c : Env2 → Mu → Prop} {r : DK} (h : ts2 ⟨Cl (tz2 ⟨n, r, b, c⟩), r, b, c⟩ ρ μ) : dSeqC ts2 tz2 ⟨n, r, b, c⟩ ρ μ := h
theorem b_nil [Jx] : PSs2 X [] tNext dNext := ⟨pss_nil, fun D2 ρ μ q I σ H hA hS D g => g.nx ρ μ σ I H q hA hS Kp.refl⟩
theorem b_one [Jx] (h : PS2 X st ts ts2) : PSs2 X [st] ts ts2 := ⟨pss_one h.ps, h.re⟩
theorem b_cons [Jx] (h : PS2 X st ts ts2) (h' : PSs2 X sts tz tz2) : PSs2 X (st :: sts) (tSeq ts tz) (dSeq ts2 tz2) :=
  ⟨pss_cons h.ps h'.ps, fun D2 ρ μ q I σ H hA hS D g => h.re _ ρ μ q I σ H hA hS _ ⟨fun ρ1 μ1 σ1 I1 H1 q1 a1 s1 k1 => h'.re D2 ρ1 μ1 q1 I1 σ1 H1 a1 s1 D (g.past k1), g.rt, g.bk, g.ct⟩⟩
/-- .. with a place to forget, to keep -/
theorem b_consC [Jx] (h : PS2 X st ts ts2) (h' : PSs2 X sts tz tz2) : PSs2 X (st :: sts) (tSeq ts tz) (dSeqC ts2 tz2) :=
  ⟨pss_cons h.ps h'.ps, fun D2 ρ μ q I σ H hA hS D g => h.re _ ρ μ q I σ H hA hS _ ⟨fun ρ1 μ1 σ1 I1 H1 q1 a1 s1 k1 => by
    obtain ⟨ρ2, μ2, sh, q2⟩ := q1
    obtain ⟨I2, a2, s2, k2⟩ := sh X.K I1 σ1 H1 a1 s1
    exact h'.re D2 ρ2 μ2 q2 I2 σ1 H1 a2 s2 D (g.past (k1.trans k2)), g.rt, g.bk, g.ct⟩⟩
theorem s_pass [Jx] : PS2 X (.Pass pos) tNext dNext := ⟨ps_pass, b_nil.re⟩
def dBreak : TS2 := fun D ρ μ => D.bk ρ μ
def dCont : TS2 := fun D ρ μ => D.ct ρ μ
theorem w_break {n b c : Env2 → Mu → Prop} {r : DK} (h : b ρ μ) : dBreak ⟨n, r, b, c⟩ ρ μ := h
theorem w_cont {n b c : Env2 → Mu → Prop} {r : DK} (h : c ρ μ) : dCont ⟨n, r, b, c⟩ ρ μ := h
theorem s_break [Jx] : PS2 X (.Break pos) tBreak dBreak := ⟨ps_break, fun D2 ρ μ q I σ H hA hS D g => g.bk ρ μ σ I H q hA hS Kp.refl⟩
theorem s_continue [Jx] : PS2 X (.Continue pos) tCont dCont := ⟨ps_continue, fun D2 ρ μ q I σ H hA hS D g => g.ct ρ μ σ I H q hA hS Kp.refl⟩
theorem s_doc [Jx] {z j pos'} : PS2 X (.Expr (.Constant (.str z) j pos') pos) tNext dNext := ⟨ps_doc, b_nil.re⟩
def dDrop (t : TE2) : TS2 := fun D ρ μ => t ρ μ fun _ μ1 => D.nx ρ μ1
theorem w_drop {n b c : Env2 → Mu → Prop} {r : DK} (h : te2 ρ μ fun _ μ1 => n ρ μ1) : dDrop te2 ⟨n, r, b, c⟩ ρ μ := h
theorem s_expr [Jx] (h : PE2 X e te te2) (hs : swapsWith e none pos.line X.env = pure false := by rfl) : PS2 X (.Expr e pos) (tDrop te) (dDrop te2) :=
  ⟨ps_expr h.pe hs, fun D2 ρ μ q I σ H hA hS D g => h.re ρ μ _ q I σ H hA hS _ fun d μ1 v I1 H1 q1 a1 k1 r1 => g.nx ρ μ1 σ I1 H1 q1 a1 (hS.mono k1.ex) k1⟩
def dRet (t : TE2) : TS2 := fun D ρ μ => t ρ μ D.rt
theorem w_ret {n b c : Env2 → Mu → Prop} {r : DK} (h : te2 ρ μ r) : dRet te2 ⟨n, r, b, c⟩ ρ μ := h
theorem s_ret [Jx] (h : PE2 X e te te2) : PS2 X (.Return (some e) pos) (tRet te) (dRet te2) := ⟨ps_ret h.pe, fun D2 ρ μ q I σ H hA hS D g => h.re ρ μ _ q I σ H hA hS _ g.rt⟩
def dRetN : TS2 := fun D _ μ => D.rt .non μ
theorem w_retN {n b c : Env2 → Mu → Prop} {r : DK} (h : r .non μ) : dRetN ⟨n, r, b, c⟩ ρ μ := h
theorem s_retN [Jx] : PS2 X (.Return none pos) tRetN dRetN := ⟨ps_retN, fun D2 ρ μ q I σ H hA hS D g => g.rt .non μ .non I H q hA Kp.refl rfl⟩
def dIfS (c : TT2) (t u : TS2) : TS2 := fun D ρ μ => c ρ μ (fun μ1 => t D ρ μ1) (fun μ1 => u D ρ μ1)
theorem w_ifS (h : tt2 ρ μ (fun μ1 => ts2 D2 ρ μ1) (fun μ1 => tz2 D2 ρ μ1)) : dIfS tt2 ts2 tz2 D2 ρ μ := h
theorem s_if [Jx] (hc : PT2 X c tt tt2) (ha : PSs2 X sts ts ts2) (hb : PSs2 X sts' tz tz2) : PS2 X (.If c sts sts' pos) (tIfS tt ts tz) (dIfS tt2 ts2 tz2) :=
  ⟨ps_if hc.pt ha.ps hb.ps, fun D2 ρ μ q I σ H hA hS D g => hc.re ρ μ _ _ q I σ H hA hS _
    (fun μ1 I1 H1 q1 a1 k1 => by
      show ts D σ H1
      exact ha.re D2 ρ μ1 q1 I1 σ H1 a1 (hS.mono k1.ex) D (g.past k1))
    (fun μ1 I1 H1 q1 a1 k1 => by
      show tz D σ H1
      exact hb.re D2 ρ μ1 q1 I1 σ H1 a1 (hS.mono k1.ex) D (g.past k1))⟩
/-- code that is never come to -/
theorem s_never [Jx] : PS2 X st tNever (fun _ _ _ => False) := ⟨ps_never, fun D2 ρ μ q => q.elim⟩
theorem b_never [Jx] : PSs2 X sts tNever (fun _ _ _ => False) := ⟨pss_never, fun D2 ρ μ q => q.elim⟩
def dAsg (t : TE2) (g : TG2) : TS2 := fun D ρ μ => t ρ μ fun d μ1 => g d ρ μ1 D.nx
theorem w_asg {g : TG2} {n b c : Env2 → Mu → Prop} {r : DK} (h : te2 ρ μ fun d μ1 => g d ρ μ1 n) : dAsg te2 g ⟨n, r, b, c⟩ ρ μ := h
theorem re_asg [Jx] {g : TG} {g2 : TG2} (h : RE K te te2) (hg : RG K g g2) : RS K (tAsg te g) (dAsg te2 g2) := fun D2 ρ μ q I σ H hA hS D k =>
  h ρ μ _ q I σ H hA hS _ fun d μ1 v I1 H1 q1 a1 k1 r1 => hg d ρ μ1 _ q1 I1 σ H1 v a1 (hS.mono k1.ex) r1 _ (k.nx.past k1)
theorem s_set [Jx] {i : Nat} {pos' : Pos} (h : PE2 X e te te2) (hN : X.N.Nodup) (hi : X.N[i]? = some x) (hx : Loc X.env.scope x) (hs : swapsWith e (some (.Name x pos')) pos.line X.env = pure false := by rfl) (hf : X.fn x = true ∨ X.env.scope.names.lookup x = some .local := by first | exact .inl rfl | exact .inr rfl | assumption) :
    PS2 X (.Assign [.Name x pos'] e pos) (tAsg te (gName i)) (dAsg te2 (gN i)) := ⟨ps_set hN hi hx h.pe hs hf, re_asg h.re (re_gN i)⟩
theorem s_asg [Jx] {tg : Expr} {g : TG} {g2 : TG2} {js : List Nat} (h : PE2 X e te te2) (hg : PG2 X tg g g2 js) (hs : swapsWithSole [tg] e pos.line X.env = pure false := by rfl) (hw : swappedStores [tg] e X.env = pure none := by rfl)
    (h1 : (assignEach [tg] X.env).map (·.2) = [assign tg X.env] := by rfl) : PS2 X (.Assign [tg] e pos) (tAsg te g) (dAsg te2 g2) := ⟨ps_asg h.pe hg.pg hs hw h1, re_asg h.re hg.re⟩
/-- o[i] = e of an owned list -/
def gIx (to ti : TE2) : TG2 := fun d ρ μ Q => to ρ μ fun o μ1 => ti ρ μ1 fun i μ2 => ∃ p ds k j, o = .adr p ∧ i = .int k ∧ μ2 p = some (.lst ds) ∧ ixN ds.length k = some j ∧ Q ρ (mup μ2 p (.lst (ds.set j d)))
def gIxK (d : D) (ρ : Env2) (Q : Env2 → Mu → Prop) (o i : D) (μ2 : Mu) : Prop := ∃ p ds k j, o = .adr p ∧ i = .int k ∧ μ2 p = some (.lst ds) ∧ ixN ds.length k = some j ∧ Q ρ (mup μ2 p (.lst (ds.set j d)))
theorem w_gIx {ti : TE2} {d : D} {QE : Env2 → Mu → Prop} (h : to2 ρ μ fun o μ1 => ti ρ μ1 fun i μ2 => gIxK d ρ QE o i μ2) : gIx to2 ti d ρ μ QE := h
theorem w_gIxK {d : D} {QE : Env2 → Mu → Prop} {p : Addr} {ds : List D} {k : Int} {j : Nat} (h : μ p = some (.lst ds)) (e : ixN ds.length k = some j) (q : QE ρ (mup μ p (.lst (ds.set j d)))) : gIxK d ρ QE (.adr p) (.int k) μ := ⟨p, ds, k, j, rfl, rfl, h, e, q⟩
theorem re_gIx [Jx] {ti : TE} {ti2 : TE2} (ho : RE K to to2) (hi : RE K ti ti2) : RG K (gSub to ti rSetL) (gIx to2 ti2) := fun d ρ μ Q2 q I σ H v hA hS r Q k =>
  ho ρ μ _ q I σ H hA hS _ fun o μ1 vo I1 H1 q1 a1 k1 r1 => hi ρ μ1 _ q1 I1 σ H1 a1 (hS.mono k1.ex) _ fun i μ2 vi I2 H2 q2 a2 k2 r2 => by
    obtain ⟨p, ds, n, j, rfl, rfl, h, e, q2⟩ := q2
    cases (show vo = _ from r1)
    obtain ⟨_, ob, hh, vs, rfl, hr⟩ := a2.own p _ h
    refine ⟨p, vs, n, j, rfl, r2, hh, by rw [hr.length]; exact e, ?_⟩
    exact k _ _ _ _ _ q2 (a2.put h ⟨_, rfl, hr.set j (r.mono (k1.trans k2).ex)⟩) (hS.mono (k1.trans k2).ex) ((k1.trans k2).trans (Kp.put h))
theorem s_setIx [Jx] {i : Expr} {ti : TE} {ti2 : TE2} {pos' : Pos} (h : PE2 X e te te2) (ho : PE2 X o to to2) (hi : PE2 X i ti ti2) (hs : swapsWithSole [.Subscript o i pos'] e pos.line X.env = pure false := by rfl) (hw : swappedStores [.Subscript o i pos'] e X.env = pure none := by rfl)
    (h1 : (assignEach [.Subscript o i pos'] X.env).map (·.2) = [assign (.Subscript o i pos') X.env] := by rfl)
    (ha : ∀ v, assign (.Subscript o i pos') X.env v = (do
      let ov ← holding [v] (eval o X.env)
      let iv ← holding [v, ov] (eval i X.env)
      standAt pos'
      holding [v, ov, iv] (setItem ov iv v)
      release [v, ov, iv] []) := by intro _; rfl) : PS2 X (.Assign [.Subscript o i pos'] e pos) (tAsg te (gSub to ti rSetL)) (dAsg te2 (gIx to2 ti2)) :=
  ⟨ps_asg h.pe (pg_sub ho.pe hi.pe set_list ha) hs hw h1, re_asg h.re (re_gIx ho.re hi.re)⟩

/-! ### while -/
def dWhile (c : TT2) (tb : TS2) : TS2 := fun D ρ μ => ∃ W : Nat → Env2 → Mu → Prop, (∃ m, Cl (W m) ρ μ) ∧ ∀ m ρ μ, W m ρ μ →
  c ρ μ (fun μ1 => tb { D with nx := Cl (fun ρ μ => ∃ m', m' < m ∧ W m' ρ μ), ct := Cl (fun ρ μ => ∃ m', m' < m ∧ W m' ρ μ), bk := D.nx } ρ μ1) (fun μ1 => D.nx ρ μ1)
theorem w_while {n b c : Env2 → Mu → Prop} {r : DK} (W : Nat → Env2 → Mu → Prop) (m : Nat) (h : Cl (W m) ρ μ) (hs : ∀ m ρ μ, W m ρ μ →
  tt2 ρ μ (fun μ1 => ts2 ⟨Cl (fun ρ μ => ∃ m', m' < m ∧ W m' ρ μ), r, n, Cl (fun ρ μ => ∃ m', m' < m ∧ W m' ρ μ)⟩ ρ μ1) (fun μ1 => n ρ μ1)) : dWhile tt2 ts2 ⟨n, r, b, c⟩ ρ μ := ⟨W, ⟨m, h⟩, hs⟩
theorem s_while [Jx] (hp : PassesOwn (model X.prog X.w) X.A X.env X.xe) (hc : PT2 X c tt tt2) (hb : PSs2 X sts ts ts2) : PS2 X (.While c sts [] pos) (tWhile tt ts) (dWhile tt2 ts2) :=
  ⟨ps_while hp hc.pt hb.ps, fun D2 ρ μ q I σ H hA hS D g => by
    obtain ⟨W, ⟨m0, ρ0, μ0, sh, w0⟩, step⟩ := q
    obtain ⟨I0, a0, s0, k0⟩ := sh X.K I σ H hA hS
    refine ⟨fun m σ' H' => ∃ ρ' μ' I', W m ρ' μ' ∧ At X.K μ' I' H' ∧ Slots X.K I' ρ' σ' ∧ Kp I μ H I' μ' H', ⟨m0, ρ0, μ0, I0, w0, a0, s0, k0⟩, ?_⟩
    rintro m σ' H' ⟨ρ', μ', I', w, a', s', k'⟩
    refine hc.re ρ' μ' _ _ (step m ρ' μ' w) I' σ' H' a' s' _ (fun μ1 I1 H1 q1 a1 k1 => ?_) (fun μ1 I1 H1 q1 a1 k1 => ?_)
    · show ∃ N : L2.St → Hp → Prop, _
      refine ⟨fun σ2 H2 => ∃ m', m' < m ∧ ∃ ρ' μ' I', W m' ρ' μ' ∧ At X.K μ' I' H2 ∧ Slots X.K I' ρ' σ2 ∧ Kp I μ H I' μ' H2, fun σ2 H2 n => n, ?_⟩
      have kk := k'.trans k1
      refine hb.re _ ρ' μ1 q1 I1 σ' H1 a1 (s'.mono k1.ex) _ ⟨?_, g.rt.past kk, g.nx.past kk, ?_⟩
      · rintro ρ2 μ2 σ2 I2 H2 ⟨ρ3, μ3, sh3, m', hm, w3⟩ a2 s2 k2
        obtain ⟨I3, a3, s3, k3⟩ := sh3 X.K I2 σ2 H2 a2 s2
        exact ⟨m', hm, ρ3, μ3, I3, w3, a3, s3, (kk.trans k2).trans k3⟩
      · rintro ρ2 μ2 σ2 I2 H2 ⟨ρ3, μ3, sh3, m', hm, w3⟩ a2 s2 k2
        obtain ⟨I3, a3, s3, k3⟩ := sh3 X.K I2 σ2 H2 a2 s2
        exact ⟨m', hm, ρ3, μ3, I3, w3, a3, s3, (kk.trans k2).trans k3⟩
    · show D.nx σ' H1
      exact g.nx ρ' μ1 σ' I1 H1 q1 a1 (s'.mono k1.ex) (k'.trans k1)⟩

/-! ### what is walked -/
/-- items xs, while G stands -/
def ItD [Jx] (K : PySem.W.Frag) (J : It) (xs : List D) (G : Mu → Prop) (I0 : Hp) : Prop := ∀ (i : Nat) (I : Hp) (μ : Mu) (H : Hp), Exx I0 I → At K μ I H → G μ →
  (i < xs.length → J.go i H ∧ ∀ v H', J.yld i H v H' → ∃ d I', xs[i]? = some d ∧ At K μ I' H' ∧ Kp I μ H I' μ H' ∧ Rp K I' d v) ∧ (xs.length ≤ i → J.stop i H)
abbrev TI2 := Env2 → Mu → (List D → (Mu → Prop) → Mu → Prop) → Prop
def RI [Jx] (K : PySem.W.Frag) (wi : TI) (t : TI2) : Prop := ∀ ρ μ R2, t ρ μ R2 → ∀ I σ H, At K μ I H → Slots K I ρ σ → ∀ R : It → Hp → Prop,
  (∀ J xs G μ' I' H', R2 xs G μ' → At K μ' I' H' → Kp I μ H I' μ' H' → ItD K J xs G I' → R J H') → wi σ H R
structure PI2 [Jx] (X : Cx) (tg iter : Expr) (wi : TI) (t : TI2) : Prop where
  pi : PI X tg iter wi
  re : RI X.K wi t
/-- the turns, one by one -/
def dTurns (G : Mu → Prop) (g : TG2) (tb : TS2) (E : Ends2) : List D → Env2 → Mu → Prop
  | [], ρ, μ => G μ ∧ E.nx ρ μ
  | x :: xs, ρ, μ => G μ ∧ g x ρ μ fun ρ2 μ2 => tb { E with nx := Cl (dTurns G g tb E xs), ct := Cl (dTurns G g tb E xs), bk := E.nx } ρ2 μ2
def dFor (wi : TI2) (g : TG2) (tb : TS2) : TS2 := fun D ρ μ => wi ρ μ fun xs G μ1 => Cl (dTurns G g tb D xs) ρ μ1
theorem w_for {wi : TI2} {g : TG2} (h : wi ρ μ fun xs G μ1 => Cl (dTurns G g ts2 D2 xs) ρ μ1) : dFor wi g ts2 D2 ρ μ := h
theorem w_turn0 {G : Mu → Prop} {g : TG2} {n b c : Env2 → Mu → Prop} {r : DK} (h : G μ) (q : n ρ μ) : dTurns G g ts2 ⟨n, r, b, c⟩ [] ρ μ := ⟨h, q⟩
theorem w_turn {G : Mu → Prop} {g : TG2} {d : D} {xs : List D} {n b c : Env2 → Mu → Prop} {r : DK} (h : G μ) (q : g d ρ μ fun ρ2 μ2 => ts2 ⟨Cl (dTurns G g ts2 ⟨n, r, b, c⟩ xs), r, n, Cl (dTurns G g ts2 ⟨n, r, b, c⟩ xs)⟩ ρ2 μ2) : dTurns G g ts2 ⟨n, r, b, c⟩ (d :: xs) ρ μ := ⟨h, q⟩
/-- by what holds between the turns: of the items that are left -/
theorem w_turns {G : Mu → Prop} {g : TG2} {n b c : Env2 → Mu → Prop} {r : DK} (Iv : List D → Env2 → Mu → Prop) (hG : ∀ xs ρ μ, Iv xs ρ μ → G μ)
    (hs : ∀ d xs ρ μ, Iv (d :: xs) ρ μ → ∀ N : Env2 → Mu → Prop, (∀ ρ μ, Iv xs ρ μ → N ρ μ) → g d ρ μ fun ρ2 μ2 => ts2 ⟨Cl N, r, n, Cl N⟩ ρ2 μ2) (hd : ∀ ρ μ, Iv [] ρ μ → n ρ μ) :
    ∀ xs ρ μ, Iv xs ρ μ → dTurns G g ts2 ⟨n, r, b, c⟩ xs ρ μ
  | [], ρ, μ, h => ⟨hG _ _ _ h, hd _ _ h⟩
  | d :: xs, ρ, μ, h => ⟨hG _ _ _ h, hs d xs ρ μ h _ fun ρ μ h => w_turns Iv hG hs hd xs ρ μ h⟩
theorem s_for [Jx] {tg iter : Expr} {wi : TI} {wi2 : TI2} {g : TG} {g2 : TG2} {js : List Nat} (hp : PassesOwn (model X.prog X.w) X.A X.env X.xe) (hc : X.calm = true) (hi : PI2 X tg iter wi wi2) (hg : PG2 X tg g g2 js) (hb : PSs2 X sts ts ts2)
    (hs : ∀ x, foldedSetIterable iter X.env x = pure x := by intro _; rfl) : PS2 X (.For tg iter sts [] pos) (tFor wi g ts) (dFor wi2 g2 ts2) :=
  ⟨ps_for hp hc hi.pi hg.pg hb.ps hs, fun D2 ρ μ q I σ H hA hS D gg => by
    refine hi.re ρ μ _ q I σ H hA hS _ fun J xs G μ1 I1 H1 q1 a1 k1 hJ => ?_
    obtain ⟨ρ0, μ0, sh0, q1⟩ := q1
    obtain ⟨I0, a0, s0, k0⟩ := sh0 X.K I1 σ H1 a1 (hS.mono k1.ex)
    refine ⟨fun i m σ' H' => m = xs.length - i ∧ i ≤ xs.length ∧ ∃ ρ' μ' I', dTurns G g2 ts2 D2 (xs.drop i) ρ' μ' ∧ At X.K μ' I' H' ∧ Slots X.K I' ρ' σ' ∧ Kp I μ H I' μ' H' ∧ Exx I1 I', ⟨xs.length, by simp, Nat.zero_le _, ρ0, μ0, I0, by simpa using q1, a0, s0, k1.trans k0, k0.ex⟩, ?_⟩
    rintro i m σ' H' ⟨rfl, hi', ρ', μ', I', w, a', s', k', e'⟩
    by_cases hlt : i < xs.length
    · have hd : xs.drop i = xs[i] :: xs.drop (i + 1) := by rw [List.drop_eq_getElem_cons hlt]
      rw [hd] at w
      obtain ⟨hG, w⟩ := w
      obtain ⟨⟨go, yl⟩, _⟩ := (fun z => ⟨z.1 hlt, z.2⟩ : _ → _ ∧ _) (hJ i I' μ' H' e' a' hG)
      refine .inr ⟨go, fun σ2 H2 => ∃ ρ' μ' I', dTurns G g2 ts2 D2 (xs.drop (i + 1)) ρ' μ' ∧ At X.K μ' I' H2 ∧ Slots X.K I' ρ' σ2 ∧ Kp I μ H I' μ' H2 ∧ Exx I1 I', fun σ2 H2 n => ⟨xs.length - (i + 1), by omega, rfl, hlt, n⟩, fun v H2 y => ?_⟩
      obtain ⟨d, I2, e2, a2, k2, r2⟩ := yl v H2 y
      rw [List.getElem?_eq_getElem hlt] at e2
      cases e2
      have kk := k'.trans k2
      refine hg.re _ ρ' μ' _ w I2 σ' H2 v a2 (s'.mono k2.ex) r2 _ fun ρ3 μ3 σ3 I3 H3 q3 a3 s3 k3 => ?_
      have kkk := kk.trans k3
      have nx : GoE X.K I3 μ3 H3 (Cl (dTurns G g2 ts2 D2 (xs.drop (i + 1)))) (fun σ2 H2 => ∃ ρ' μ' I', dTurns G g2 ts2 D2 (xs.drop (i + 1)) ρ' μ' ∧ At X.K μ' I' H2 ∧ Slots X.K I' ρ' σ2 ∧ Kp I μ H I' μ' H2 ∧ Exx I1 I') := by
        rintro ρ4 μ4 σ4 I4 H4 ⟨ρ5, μ5, sh, w5⟩ a4 s4 k4
        obtain ⟨I5, a5, s5, k5⟩ := sh X.K I4 σ4 H4 a4 s4
        exact ⟨ρ5, μ5, I5, w5, a5, s5, (kkk.trans k4).trans k5, e'.trans (k2.ex.trans (k3.ex.trans (k4.ex.trans k5.ex)))⟩
      exact hb.re _ ρ3 μ3 q3 I3 σ3 H3 a3 s3 _ ⟨nx, gg.rt.past kkk, gg.nx.past kkk, nx⟩
    · have e : i = xs.length := by omega
      subst e
      rw [List.drop_length] at w
      exact .inl ⟨(hJ _ I' μ' H' e' a' w.1).2 (Nat.le_refl _), gg.nx ρ' μ' σ' I' H' w.2 a' s' k'⟩⟩
/-- a list, a tuple -/
def Still (x : D) (ds : List D) : Mu → Prop := fun μ => asL μ x = some ds
def jL (t : TE2) : TI2 := fun ρ μ R => t ρ μ fun x μ1 => ∃ ds, asL μ1 x = some ds ∧ R ds (Still x ds) μ1
def jLK (R : List D → (Mu → Prop) → Mu → Prop) : DK := fun x μ1 => ∃ ds, asL μ1 x = some ds ∧ R ds (Still x ds) μ1
def jT (t : TE2) : TI2 := fun ρ μ R => t ρ μ fun x μ1 => ∃ ds, x = .tup ds ∧ R ds (fun _ => True) μ1
def jTK (R : List D → (Mu → Prop) → Mu → Prop) : DK := fun x μ1 => ∃ ds, x = .tup ds ∧ R ds (fun _ => True) μ1
theorem w_jL {R : List D → (Mu → Prop) → Mu → Prop} (h : te2 ρ μ (jLK R)) : jL te2 ρ μ R := h
theorem w_jLK {R : List D → (Mu → Prop) → Mu → Prop} {x : D} {ds : List D} (h : asL μ x = some ds) (q : R ds (Still x ds) μ) : jLK R x μ := ⟨ds, h, q⟩
theorem w_jT {R : List D → (Mu → Prop) → Mu → Prop} (h : te2 ρ μ (jTK R)) : jT te2 ρ μ R := h
theorem w_jTK {R : List D → (Mu → Prop) → Mu → Prop} {ds : List D} (q : R ds (fun _ => True) μ) : jTK R (.tup ds) μ := ⟨ds, rfl, q⟩
theorem itd_l [Jx] {I : Hp} {x : D} {p : Addr} {ds : List D} (r : Rp K I x (.ref p)) : ItD K (Itl K p) ds (Still x ds) I := fun i I' μ' H' e a g => by
  obtain ⟨p', vs, e1, h1, h2⟩ := asL_at a (r.mono e) g
  cases e1
  refine ⟨fun hi => ?_, fun hi => ⟨vs, SqL.of h1, by rw [h2.length]; exact hi⟩⟩
  obtain ⟨v, g1, g2⟩ := h2.get (List.getElem?_eq_getElem hi)
  refine ⟨⟨vs, v, SqL.of h1, g1⟩, fun w H2 y => ?_⟩
  obtain ⟨rfl, y⟩ := y
  have ew := y vs (SqL.of h1)
  rw [g1] at ew; cases ew
  exact ⟨_, I', List.getElem?_eq_getElem hi, a, Kp.refl, g2⟩
theorem j_l [Jx] {tg : Expr} (h : PE2 X e te te2) : PI2 X tg e (iList X.K te) (jL te2) := ⟨pi_list h.pe, fun ρ μ R2 q I σ H hA hS R k => h.re ρ μ _ q I σ H hA hS _ fun x μ1 v I1 H1 q1 a1 k1 r1 => by
  obtain ⟨ds, e, q1⟩ := q1
  obtain ⟨p, vs, rfl, h1, h2⟩ := asL_at a1 r1 e
  exact ⟨p, rfl, ⟨vs, SqL.of h1⟩, k _ _ _ _ _ _ q1 a1 k1 (itd_l r1)⟩⟩
theorem j_t [Jx] {tg : Expr} (h : PE2 X e te te2) : PI2 X tg e (iTup X.K te) (jT te2) := ⟨pi_tup h.pe, fun ρ μ R2 q I σ H hA hS R k => h.re ρ μ _ q I σ H hA hS _ fun x μ1 v I1 H1 q1 a1 k1 r1 => by
  obtain ⟨ds, rfl, q1⟩ := q1
  obtain ⟨p, vs, rfl, h1, h2⟩ := r1
  refine ⟨p, rfl, ⟨vs, (show Exx I1 H1 from a1.sub).sqt h1⟩, k _ _ _ _ _ _ q1 a1 k1 fun i I' μ' H' e a _ => ?_⟩
  have hs := (show Exx I' H' from a.sub).sqt (e.sqt h1)
  have h2' := h2.mono e
  refine ⟨fun hi => ?_, fun hi => ⟨vs, hs, by rw [h2.length]; exact hi⟩⟩
  obtain ⟨v, g1, g2⟩ := h2'.get (List.getElem?_eq_getElem hi)
  refine ⟨⟨vs, v, hs, g1⟩, fun w H2 y => ?_⟩
  obtain ⟨rfl, y⟩ := y
  have ew := y vs hs
  rw [g1] at ew; cases ew
  exact ⟨_, I', List.getElem?_eq_getElem hi, a, Kp.refl, g2⟩⟩
/-- range -/
def rngD (lo : Int) (n : Nat) : List D := (List.range n).map fun i : Nat => D.int (lo + (i : Int))
theorem rngD_len (lo : Int) (n : Nat) : (rngD lo n).length = n := by unfold rngD; rw [List.length_map, List.length_range]
theorem rngD_get {lo : Int} {n i : Nat} (h : i < n) : (rngD lo n)[i]? = some (.int (lo + (i : Int))) := by
  unfold rngD
  rw [List.getElem?_map, List.getElem?_range h]; rfl
theorem itd_r [Jx] {I : Hp} (lo : Int) (n : Nat) : ItD K (Itr lo n) (rngD lo n) (fun _ => True) I := fun i I' μ' H' e a _ => by
  rw [rngD_len]
  refine ⟨fun hi => ⟨hi, fun w H2 y => ?_⟩, fun hi => hi⟩
  obtain ⟨rfl, rfl⟩ := y
  exact ⟨_, I', rngD_get hi, a, Kp.refl, rfl⟩
def jR1 (ta : TA2) : TI2 := fun ρ μ R => ta ρ μ fun xs μ1 => ∃ j : Int, xs = [.int j] ∧ -(2 ^ 62) ≤ j ∧ j < 2 ^ 62 ∧ R (rngD 0 j.toNat) (fun _ => True) μ1
def jR1K (R : List D → (Mu → Prop) → Mu → Prop) : List D → Mu → Prop := fun xs μ1 => ∃ j : Int, xs = [.int j] ∧ -(2 ^ 62) ≤ j ∧ j < 2 ^ 62 ∧ R (rngD 0 j.toNat) (fun _ => True) μ1
def jR2 (ta : TA2) : TI2 := fun ρ μ R => ta ρ μ fun xs μ1 => ∃ i j : Int, xs = [.int i, .int j] ∧ (-(2 ^ 62) ≤ i ∧ i < 2 ^ 62 ∧ -(2 ^ 62) ≤ j ∧ j < 2 ^ 62) ∧ R (rngD i (j - i).toNat) (fun _ => True) μ1
def jR2K (R : List D → (Mu → Prop) → Mu → Prop) : List D → Mu → Prop := fun xs μ1 => ∃ i j : Int, xs = [.int i, .int j] ∧ (-(2 ^ 62) ≤ i ∧ i < 2 ^ 62 ∧ -(2 ^ 62) ≤ j ∧ j < 2 ^ 62) ∧ R (rngD i (j - i).toNat) (fun _ => True) μ1
theorem w_jR1 {R : List D → (Mu → Prop) → Mu → Prop} (h : tl2 ρ μ (jR1K R)) : jR1 tl2 ρ μ R := h
theorem w_jR1K {R : List D → (Mu → Prop) → Mu → Prop} {j : Int} (h1 : -(2 ^ 62) ≤ j) (h2 : j < 2 ^ 62) (q : R (rngD 0 j.toNat) (fun _ => True) μ) : jR1K R [.int j] μ := ⟨j, rfl, h1, h2, q⟩
theorem w_jR2 {R : List D → (Mu → Prop) → Mu → Prop} (h : tl2 ρ μ (jR2K R)) : jR2 tl2 ρ μ R := h
theorem w_jR2K {R : List D → (Mu → Prop) → Mu → Prop} {i j : Int} (h : -(2 ^ 62) ≤ i ∧ i < 2 ^ 62 ∧ -(2 ^ 62) ≤ j ∧ j < 2 ^ 62) (q : R (rngD i (j - i).toNat) (fun _ => True) μ) : jR2K R [.int i, .int j] μ := ⟨i, j, rfl, h, q⟩
theorem j_r1 [Jx] {tg : Expr} (hg : Gl X "range") (hm : X.mg "range" = none) (ha : PA2 X [a] tl tl2) (hs : starEach [a] X.env = [(false, eval a X.env)] := by rfl) : PI2 X tg (.Call (.Name "range" p) [a] [] pos) (iRng1 tl) (jR1 tl2) :=
  ⟨pi_range1 hg hm ha.pa hs, fun ρ μ R2 q I σ H hA hS R k => ha.re ρ μ _ q I σ H hA hS _ fun xs μ1 vs I1 H1 q1 a1 k1 r1 => by
    obtain ⟨j, rfl, h1, h2, q1⟩ := q1
    obtain ⟨v, rfl, e⟩ := r1.one_inv
    cases (show v = _ from e)
    exact ⟨j, rfl, h1, h2, k _ _ _ _ _ _ q1 a1 k1 (itd_r _ _)⟩⟩
theorem j_r2 [Jx] {tg : Expr} (hg : Gl X "range") (hm : X.mg "range" = none) (ha : PA2 X [a, b] tl tl2) (hs : starEach [a, b] X.env = [(false, eval a X.env), (false, eval b X.env)] := by rfl) (hs2 : starEach [b] X.env = [(false, eval b X.env)] := by rfl) : PI2 X tg (.Call (.Name "range" p) [a, b] [] pos) (iRng2 tl) (jR2 tl2) :=
  ⟨pi_range2 hg hm ha.pa hs hs2, fun ρ μ R2 q I σ H hA hS R k => ha.re ρ μ _ q I σ H hA hS _ fun xs μ1 vs I1 H1 q1 a1 k1 r1 => by
    obtain ⟨i, j, rfl, h, q1⟩ := q1
    obtain ⟨v, w, rfl, e1, e2⟩ := r1.two_inv
    cases (show v = _ from e1)
    cases (show w = _ from e2)
    exact ⟨i, j, rfl, h, k _ _ _ _ _ _ q1 a1 k1 (itd_r _ _)⟩⟩
/-- a text, sign by sign -/
def sgnD (z : Str) : List D := z.cps.toList.map fun c => D.str ⟨#[c]⟩
def jS (t : TE2) : TI2 := fun ρ μ R => t ρ μ fun x μ1 => ∃ z, x = .str z ∧ R (sgnD z) (fun _ => True) μ1
def jSK (R : List D → (Mu → Prop) → Mu → Prop) : DK := fun x μ1 => ∃ z, x = .str z ∧ R (sgnD z) (fun _ => True) μ1
theorem w_jS {R : List D → (Mu → Prop) → Mu → Prop} (h : te2 ρ μ (jSK R)) : jS te2 ρ μ R := h
theorem w_jSK {R : List D → (Mu → Prop) → Mu → Prop} {z : Str} (q : R (sgnD z) (fun _ => True) μ) : jSK R (.str z) μ := ⟨z, rfl, q⟩
theorem j_s [Jx] {tg : Expr} (h : PE2 X e te te2) : PI2 X tg e (iStr te) (jS te2) := ⟨pi_str h.pe, fun ρ μ R2 q I σ H hA hS R k => h.re ρ μ _ q I σ H hA hS _ fun x μ1 v I1 H1 q1 a1 k1 r1 => by
  obtain ⟨z, rfl, q1⟩ := q1
  refine ⟨z, r1, k _ _ _ _ _ _ q1 a1 k1 fun i I' μ' H' e a _ => ?_⟩
  have el : (sgnD z).length = z.cps.size := by unfold sgnD; rw [List.length_map, Array.length_toList]
  rw [el]
  refine ⟨fun hi => ⟨hi, fun w H2 y => ?_⟩, fun hi => hi⟩
  obtain ⟨rfl, c, hc, rfl⟩ := y
  refine ⟨.str ⟨#[c]⟩, I', ?_, a, Kp.refl, rfl⟩
  unfold sgnD
  rw [List.getElem?_map, Array.getElem?_toList, hc]; rfl⟩
end
end Y

set_option Elab.async false
set_option linter.all false
set_option maxRecDepth 100000
set_option maxHeartbeats 4000000
namespace Y
open PySem PySem.Spec PyProof.Rows L2
section
variable {X : Cx} {K : PySem.W.Frag} {a b c e o : Expr} {es rest : List Expr} {ta tb tc te to : TE} {ta2 tb2 tc2 te2 to2 : TE2} {pos apos cpos p tpos : Pos} {tt tu : TT} {tt2 tu2 : TT2} {tl : TA} {tl2 : TA2} {x : Str}
variable {ρ : Env2} {μ : Mu} {Q : DK} {T F : Mu → Prop} {st : Stmt} {sts sts' : List Stmt} {ts tz : TS} {ts2 tz2 : TS2} {D2 : Ends2}

/-! ### zip, enumerate, reversed -/
def prsD : List D → List D → List D
  | x :: xs, y :: ys => .tup [x, y] :: prsD xs ys
  | _, _ => []
theorem prsD_len : ∀ xs ys, (prsD xs ys).length = min xs.length ys.length
  | [], _ => by simp [prsD]
  | _ :: _, [] => by simp [prsD]
  | x :: xs, y :: ys => by simp [prsD, prsD_len xs ys]
theorem prsD_get : ∀ {xs ys : List D} {i : Nat} {x y : D}, xs[i]? = some x → ys[i]? = some y → (prsD xs ys)[i]? = some (.tup [x, y])
  | [], _, _, _, _, h, _ => by simp at h
  | _ :: _, [], _, _, _, _, h => by simp at h
  | _ :: xs, _ :: ys, 0, _, _, h, h' => by simp at h h'; simp [prsD, h, h']
  | _ :: xs, _ :: ys, i + 1, x, y, h, h' => by simpa [prsD] using prsD_get (xs := xs) (ys := ys) (i := i) (by simpa using h) (by simpa using h')
def enuD : Nat → List D → List D
  | _, [] => []
  | n, x :: xs => .tup [.int (n : Nat), x] :: enuD (n + 1) xs
theorem enuD_len : ∀ n xs, (enuD n xs).length = xs.length
  | _, [] => rfl
  | n, x :: xs => by show (enuD (n + 1) xs).length + 1 = xs.length + 1; rw [enuD_len (n + 1) xs]
theorem enuD_get : ∀ {xs : List D} {n i : Nat} {x : D}, xs[i]? = some x → (enuD n xs)[i]? = some (.tup [.int ((n + i : Nat) : Int), x])
  | [], _, _, _, h => by simp at h
  | _ :: xs, n, 0, _, h => by simp at h; simp [enuD, h]
  | _ :: xs, n, i + 1, x, h => by
    have := enuD_get (xs := xs) (n := n + 1) (i := i) (x := x) (by simpa using h)
    rw [show n + 1 + i = n + (i + 1) by omega] at this
    simpa [enuD] using this
theorem pair_new [Jx] {I H : Hp} {T : Addr} {d1 d2 : D} {v1 v2 : V} (a : At K μ I H) (hT : H T = none) (r1 : Rp K I d1 v1) (r2 : Rp K I d2 v2) :
    ∃ I', At K μ I' (upd H T (.tup [v1, v2])) ∧ Kp I μ H I' μ (upd H T (.tup [v1, v2])) ∧ Rp K I' (.tup [d1, d2]) (.ref T) :=
  have e := Exx.new (o := HO.tup [v1, v2]) (a.noI hT)
  ⟨_, a.laid hT, Kp.laid hT (a.noI hT), ⟨T, [v1, v2], rfl, SqT.of upd_same, RpA.cons (r1.mono e) (RpA.one (r2.mono e))⟩⟩
theorem itd_z [Jx] {I : Hp} {x y : D} {p q : Addr} {ds es : List D} (r : Rp K I x (.ref p)) (r' : Rp K I y (.ref q)) : ItD K (Itz K p q) (prsD ds es) (fun μ => Still x ds μ ∧ Still y es μ) I := fun i I' μ' H' e a g => by
  obtain ⟨_, vs, e1, h1, h2⟩ := asL_at a (r.mono e) g.1
  cases e1
  obtain ⟨_, ws, e1, h3, h4⟩ := asL_at a (r'.mono e) g.2
  cases e1
  rw [prsD_len]
  refine ⟨fun hi => ?_, fun hi => ⟨vs, ws, SqL.of h1, SqL.of h3, by rw [h2.length, h4.length]; omega⟩⟩
  have hi1 : i < ds.length := by omega
  have hi2 : i < es.length := by omega
  obtain ⟨v, g1, g2⟩ := h2.get (List.getElem?_eq_getElem hi1)
  obtain ⟨w, g3, g4⟩ := h4.get (List.getElem?_eq_getElem hi2)
  refine ⟨⟨vs, ws, v, w, SqL.of h1, SqL.of h3, g1, g3⟩, fun u H2 y => ?_⟩
  obtain ⟨T, a1, a2, rfl, hT, rfl, y1, y2⟩ := y
  have e1 := y1 vs (SqL.of h1)
  rw [g1] at e1; cases e1
  have e2 := y2 ws (SqL.of h3)
  rw [g3] at e2; cases e2
  obtain ⟨I2, b1, b2, b3⟩ := pair_new a hT g2 g4
  exact ⟨_, I2, prsD_get (List.getElem?_eq_getElem hi1) (List.getElem?_eq_getElem hi2), b1, b2, b3⟩
theorem itd_zT [Jx] {I : Hp} {p q : Addr} {ds es : List D} {vs ws : List V} (h1 : SqT K I p vs) (h2 : RpA K I ds vs) (h3 : SqT K I q ws) (h4 : RpA K I es ws) : ItD K (RZ.ItzT K p q) (prsD ds es) (fun _ => True) I := fun i I' μ' H' e a _ => by
  have h1 := (show Exx I' H' from a.sub).sqt (e.sqt h1)
  have h3 := (show Exx I' H' from a.sub).sqt (e.sqt h3)
  have h2 := h2.mono e
  have h4 := h4.mono e
  rw [prsD_len]
  refine ⟨fun hi => ?_, fun hi => ⟨vs, ws, h1, h3, by rw [h2.length, h4.length]; omega⟩⟩
  have hi1 : i < ds.length := by omega
  have hi2 : i < es.length := by omega
  obtain ⟨v, g1, g2⟩ := h2.get (List.getElem?_eq_getElem hi1)
  obtain ⟨w, g3, g4⟩ := h4.get (List.getElem?_eq_getElem hi2)
  refine ⟨⟨vs, ws, v, w, h1, h3, g1, g3⟩, fun u H2 y => ?_⟩
  obtain ⟨T, a1, a2, rfl, hT, rfl, y1, y2⟩ := y
  have e1 := y1 vs h1
  rw [g1] at e1; cases e1
  have e2 := y2 ws h3
  rw [g3] at e2; cases e2
  obtain ⟨I2, b1, b2, b3⟩ := pair_new a hT g2 g4
  exact ⟨_, I2, prsD_get (List.getElem?_eq_getElem hi1) (List.getElem?_eq_getElem hi2), b1, b2, b3⟩
def jZ (ta : TA2) : TI2 := fun ρ μ R => ta ρ μ fun xs μ1 => (∃ x y ds es, xs = [x, y] ∧ asL μ1 x = some ds ∧ asL μ1 y = some es ∧ R (prsD ds es) (fun μ => Still x ds μ ∧ Still y es μ) μ1) ∨ ∃ ds es, xs = [.tup ds, .tup es] ∧ R (prsD ds es) (fun _ => True) μ1
def jZK (R : List D → (Mu → Prop) → Mu → Prop) : List D → Mu → Prop := fun xs μ1 => (∃ x y ds es, xs = [x, y] ∧ asL μ1 x = some ds ∧ asL μ1 y = some es ∧ R (prsD ds es) (fun μ => Still x ds μ ∧ Still y es μ) μ1) ∨ ∃ ds es, xs = [.tup ds, .tup es] ∧ R (prsD ds es) (fun _ => True) μ1
theorem w_jZ {R : List D → (Mu → Prop) → Mu → Prop} (h : tl2 ρ μ (jZK R)) : jZ tl2 ρ μ R := h
theorem w_jZL {R : List D → (Mu → Prop) → Mu → Prop} {x y : D} {ds es : List D} (h1 : asL μ x = some ds) (h2 : asL μ y = some es) (q : R (prsD ds es) (fun μ => Still x ds μ ∧ Still y es μ) μ) : jZK R [x, y] μ := .inl ⟨x, y, ds, es, rfl, h1, h2, q⟩
theorem w_jZT {R : List D → (Mu → Prop) → Mu → Prop} {ds es : List D} (q : R (prsD ds es) (fun _ => True) μ) : jZK R [.tup ds, .tup es] μ := .inr ⟨ds, es, rfl, q⟩
theorem j_z [Jx] {elts : List Expr} {kk : Nat} (hg : Gl X "zip") (hm : X.mg "zip" = none) (ha : PA2 X [a, b] tl tl2) (hs : starEach [a, b] X.env = (false, eval a X.env) :: starEach [b] X.env := by rfl) (hpl : (backTo pos (starEach [b] X.env)).any (·.1) = false := by rfl) :
    PI2 X (.Tuple elts kk tpos) (.Call (.Name "zip" p) [a, b] [] pos) (RZ.iZipA X.K tl) (jZ tl2) :=
  ⟨RZ.pi_zipA hg hm ha.pa hs hpl, fun ρ μ R2 q I σ H hA hS R k => ha.re ρ μ _ q I σ H hA hS _ fun xs μ1 vs I1 H1 q1 a1 k1 r1 => by
    rcases q1 with ⟨x, y, ds, es, rfl, h1, h2, q1⟩ | ⟨ds, es, rfl, q1⟩
    · obtain ⟨v, w, rfl, e1, e2⟩ := r1.two_inv
      obtain ⟨p1, us, rfl, g1, g2⟩ := asL_at a1 e1 h1
      obtain ⟨p2, ws, rfl, g3, g4⟩ := asL_at a1 e2 h2
      exact ⟨p1, p2, us, ws, rfl, .inl ⟨SqL.of g1, SqL.of g3, k _ _ _ _ _ _ q1 a1 k1 (itd_z e1 e2)⟩⟩
    · obtain ⟨v, w, rfl, e1, e2⟩ := r1.two_inv
      obtain ⟨p1, us, rfl, g1, g2⟩ := e1
      obtain ⟨p2, ws, rfl, g3, g4⟩ := e2
      have hs : Exx I1 H1 := a1.sub
      exact ⟨p1, p2, us, ws, rfl, .inr ⟨hs.sqt g1, hs.sqt g3, k _ _ _ _ _ _ q1 a1 k1 (itd_zT g1 g2 g3 g4)⟩⟩⟩
def jE (ta : TA2) : TI2 := fun ρ μ R => ta ρ μ fun xs μ1 => ∃ x ds, xs = [x] ∧ asL μ1 x = some ds ∧ R (enuD 0 ds) (Still x ds) μ1
def jEK (R : List D → (Mu → Prop) → Mu → Prop) : List D → Mu → Prop := fun xs μ1 => ∃ x ds, xs = [x] ∧ asL μ1 x = some ds ∧ R (enuD 0 ds) (Still x ds) μ1
theorem w_jE {R : List D → (Mu → Prop) → Mu → Prop} (h : tl2 ρ μ (jEK R)) : jE tl2 ρ μ R := h
theorem w_jEL {R : List D → (Mu → Prop) → Mu → Prop} {x : D} {ds : List D} (h1 : asL μ x = some ds) (q : R (enuD 0 ds) (Still x ds) μ) : jEK R [x] μ := ⟨x, ds, rfl, h1, q⟩
theorem j_e [Jx] {elts : List Expr} {kk : Nat} (hg : Gl X "enumerate") (hm : X.mg "enumerate" = none) (ha : PA2 X [a] tl tl2) (hs : starEach [a] X.env = [(false, eval a X.env)] := by rfl) :
    PI2 X (.Tuple elts kk tpos) (.Call (.Name "enumerate" p) [a] [] pos) (iEnum X.K tl) (jE tl2) :=
  ⟨pi_enum hg hm ha.pa hs, fun ρ μ R2 q I σ H hA hS R k => ha.re ρ μ _ q I σ H hA hS _ fun xs μ1 vs I1 H1 q1 a1 k1 r1 => by
    obtain ⟨x, ds, rfl, h1, q1⟩ := q1
    obtain ⟨v, rfl, e1⟩ := r1.one_inv
    obtain ⟨p1, us, rfl, g1, g2⟩ := asL_at a1 e1 h1
    refine ⟨p1, us, rfl, SqL.of g1, k _ _ _ _ _ _ q1 a1 k1 fun i I' μ' H' e a g => ?_⟩
    obtain ⟨_, vs, e1', h1, h2⟩ := asL_at a (e1.mono e) g
    cases e1'
    rw [enuD_len]
    refine ⟨fun hi => ?_, fun hi => ⟨vs, SqL.of h1, by rw [h2.length]; omega⟩⟩
    obtain ⟨v, g1, g2⟩ := h2.get (List.getElem?_eq_getElem hi)
    refine ⟨⟨vs, v, SqL.of h1, g1⟩, fun u H2 y => ?_⟩
    obtain ⟨T, a1, rfl, hT, rfl, y1⟩ := y
    have e1 := y1 vs (SqL.of h1)
    rw [g1] at e1; cases e1
    obtain ⟨I2, b1, b2, b3⟩ := pair_new (d1 := .int (i : Nat)) (v1 := .int (i : Nat)) a hT rfl g2
    have eg := enuD_get (n := 0) (List.getElem?_eq_getElem hi)
    rw [Nat.zero_add] at eg
    exact ⟨_, I2, eg, b1, b2, b3⟩⟩
def jV (t : TE2) : TI2 := fun ρ μ R => t ρ μ fun x μ1 => (∃ ds, asL μ1 x = some ds ∧ R ds.reverse (Still x ds) μ1) ∨ ∃ ds, x = .tup ds ∧ R ds.reverse (fun _ => True) μ1
def jVK (R : List D → (Mu → Prop) → Mu → Prop) : DK := fun x μ1 => (∃ ds, asL μ1 x = some ds ∧ R ds.reverse (Still x ds) μ1) ∨ ∃ ds, x = .tup ds ∧ R ds.reverse (fun _ => True) μ1
theorem w_jV {R : List D → (Mu → Prop) → Mu → Prop} (h : te2 ρ μ (jVK R)) : jV te2 ρ μ R := h
theorem w_jVL {R : List D → (Mu → Prop) → Mu → Prop} {x : D} {ds : List D} (h1 : asL μ x = some ds) (q : R ds.reverse (Still x ds) μ) : jVK R x μ := .inl ⟨ds, h1, q⟩
theorem w_jVT {R : List D → (Mu → Prop) → Mu → Prop} {ds : List D} (q : R ds.reverse (fun _ => True) μ) : jVK R (.tup ds) μ := .inr ⟨ds, rfl, q⟩
theorem rev_get {α : Type} {l : List α} {i : Nat} (h : i < l.length) : l.reverse[i]? = l[l.length - 1 - i]? := by rw [List.getElem?_reverse h]
theorem j_v [Jx] {tg : Expr} (hg : Gl X "reversed") (hm : X.mg "reversed" = none) (he : PE2 X e te te2) (hs : starEach [e] X.env = (false, eval e X.env) :: starEach [] X.env := by rfl) : PI2 X tg (.Call (.Name "reversed" p) [e] [] pos) (RT.iRevA X.K te) (jV te2) :=
  ⟨RT.pi_revA hg hm he.pe hs, fun ρ μ R2 q I σ H hA hS R k => he.re ρ μ _ q I σ H hA hS _ fun x μ1 v I1 H1 q1 a1 k1 r1 => by
    rcases q1 with ⟨ds, h, q1⟩ | ⟨ds, rfl, q1⟩
    · obtain ⟨p1, us, rfl, g1, g2⟩ := asL_at a1 r1 h
      have el : us.length = ds.length := g2.length
      refine ⟨p1, us, rfl, .inl ⟨SqL.of g1, k _ _ _ _ _ _ q1 a1 k1 fun i I' μ' H' e a g => ?_⟩⟩
      obtain ⟨_, vs, e1', h1, h2⟩ := asL_at a (r1.mono e) g
      cases e1'
      rw [List.length_reverse, el]
      refine ⟨fun hi => ?_, fun hi => hi⟩
      obtain ⟨v, g1, g2⟩ := h2.get (List.getElem?_eq_getElem (show ds.length - 1 - i < ds.length by omega))
      refine ⟨⟨hi, vs, v, SqL.of h1, g1⟩, fun u H2 y => ?_⟩
      obtain ⟨rfl, y⟩ := y
      have e1 := y vs (SqL.of h1)
      rw [g1] at e1; cases e1
      exact ⟨_, I', by rw [rev_get hi]; exact List.getElem?_eq_getElem (by omega), a, Kp.refl, g2⟩
    · obtain ⟨p1, us, rfl, g1, g2⟩ := r1
      have el : us.length = ds.length := g2.length
      refine ⟨p1, us, rfl, .inr ⟨(show Exx I1 H1 from a1.sub).sqt g1, k _ _ _ _ _ _ q1 a1 k1 fun i I' μ' H' e a _ => ?_⟩⟩
      have h1 := (show Exx I' H' from a.sub).sqt (e.sqt g1)
      have h2 := g2.mono e
      rw [List.length_reverse, el]
      refine ⟨fun hi => ?_, fun hi => hi⟩
      obtain ⟨v, g1, g2⟩ := h2.get (List.getElem?_eq_getElem (show ds.length - 1 - i < ds.length by omega))
      refine ⟨⟨hi, us, v, h1, g1⟩, fun u H2 y => ?_⟩
      obtain ⟨rfl, y⟩ := y
      have e1 := y us h1
      rw [g1] at e1; cases e1
      exact ⟨_, I', by rw [rev_get hi]; exact List.getElem?_eq_getElem (by omega), a, Kp.refl, g2⟩⟩

/-! ### list comprehensions -/
theorem ts_nil [Jx] : PTs2 X [] tYes (fun _ μ T _ => T μ) := ⟨pts_nil, fun ρ μ T F q I σ H hA hS Q g1 g2 => g1 μ I H q hA Kp.refl⟩
def dYes : TT2 := fun _ μ T _ => T μ
theorem w_yes (h : T μ) : dYes ρ μ T F := h
theorem ts_none [Jx] : PTs2 X [] tYes dYes := ts_nil
theorem ts_one [Jx] (h : PT2 X c tt tt2) : PTs2 X [c] tt tt2 := ⟨pts_one h.pt, h.re⟩
def wipe2 (ρ : Env2) : List Nat → Env2
  | [] => ρ
  | v :: vs => (wipe2 ρ vs).set v none
theorem Slots.wipe {I : Hp} {σ : L2.St} (h : Slots K I ρ σ) : ∀ vs : List Nat, Slots K I (wipe2 ρ vs) (L2.wipe σ vs)
  | [] => h
  | v :: vs => by
    have h' := Slots.wipe h vs
    unfold wipe2 L2.wipe
    refine ⟨by rw [List.length_set, List.length_set]; exact h'.1, fun i d e => ?_⟩
    by_cases hi : v = i
    · subst hi
      by_cases hl : v < (wipe2 ρ vs).length
      · rw [List.getElem?_set_self hl] at e; cases e
      · rw [List.getElem?_eq_none_iff.mpr (by rw [List.length_set]; omega)] at e; cases e
    · rw [List.getElem?_set_ne hi] at e ⊢
      exact h'.2 i d e
theorem wipe_get_mem {σ : L2.St} {i : Nat} : ∀ {vs : List Nat}, i ∈ vs → i < σ.length → (L2.wipe σ vs)[i]? = some none
  | v :: vs, hm, hl => by
    unfold L2.wipe
    by_cases hi : v = i
    · subst hi; rw [List.getElem?_set_self (by rw [wipe_length]; exact hl)]
    · rw [List.getElem?_set_ne hi]
      exact wipe_get_mem (by simpa [Ne.symm hi] using hm) hl
  | [], hm, _ => by cases hm
theorem wipe_get_out {σ : L2.St} {i : Nat} : ∀ {vs : List Nat}, i ∉ vs → (L2.wipe σ vs)[i]? = σ[i]?
  | [], _ => rfl
  | v :: vs, hm => by
    unfold L2.wipe
    rw [List.mem_cons, not_or] at hm
    rw [List.getElem?_set_ne (Ne.symm hm.1)]
    exact wipe_get_out hm.2
theorem wipe_same {σ σ2 : L2.St} {vs js : List Nat} (hj : ∀ j ∈ js, j ∈ vs) (l : σ2.length = (L2.wipe σ vs).length) (n : ∀ i, i ∉ js → σ2[i]? = (L2.wipe σ vs)[i]?) : L2.wipe σ2 vs = L2.wipe σ vs := by
  apply List.ext_getElem?
  intro i
  rw [wipe_length] at l
  by_cases hi : i ∈ vs
  · by_cases hl : i < σ.length
    · rw [wipe_get_mem hi hl, wipe_get_mem hi (by rw [l]; exact hl)]
    · rw [List.getElem?_eq_none_iff.mpr (by rw [wipe_length]; omega), List.getElem?_eq_none_iff.mpr (by rw [wipe_length]; omega)]
  · rw [wipe_get_out hi, n i (fun z => hi (hj i z))]
/-- the turns of a comprehension: items left, made so far -/
def dLcs (G : Mu → Prop) (g : TG2) (tt : TT2) (te : TE2) (ρ : Env2) (Q : DK) : List D → List D → Mu → Prop
  | [], acc, μ => G μ ∧ ∀ p, μ p = none → Q (.adr p) (mup μ p (.lst acc))
  | x :: xs, acc, μ => G μ ∧ g x ρ μ fun ρ2 μ2 => tt ρ2 μ2 (fun μ3 => te ρ2 μ3 fun d μ4 => acc.length < sizeLine ∧ dLcs G g tt te ρ Q xs (acc ++ [d]) μ4) (fun μ3 => dLcs G g tt te ρ Q xs acc μ3)
def dLc (wi : TI2) (g : TG2) (tt : TT2) (te : TE2) (vs : List Nat) : TE2 := fun ρ μ Q => wi ρ μ fun xs G μ1 => dLcs G g tt te (wipe2 ρ vs) Q xs [] μ1
theorem w_lc {wi : TI2} {g : TG2} {vs : List Nat} (h : wi ρ μ fun xs G μ1 => dLcs G g tt2 te2 (wipe2 ρ vs) Q xs [] μ1) : dLc wi g tt2 te2 vs ρ μ Q := h
theorem w_lcs0 {G : Mu → Prop} {g : TG2} {acc : List D} (h : G μ) (q : ∀ p, μ p = none → Q (.adr p) (mup μ p (.lst acc))) : dLcs G g tt2 te2 ρ Q [] acc μ := ⟨h, q⟩
def dLcK (G : Mu → Prop) (g : TG2) (tt : TT2) (te : TE2) (ρ : Env2) (Q : DK) (xs acc : List D) : DK := fun d μ4 => acc.length < sizeLine ∧ dLcs G g tt te ρ Q xs (acc ++ [d]) μ4
theorem w_lcs {G : Mu → Prop} {g : TG2} {acc xs : List D} {x : D} (h : G μ) (q : g x ρ μ fun ρ2 μ2 => tt2 ρ2 μ2 (fun μ3 => te2 ρ2 μ3 (dLcK G g tt2 te2 ρ Q xs acc)) (fun μ3 => dLcs G g tt2 te2 ρ Q xs acc μ3)) : dLcs G g tt2 te2 ρ Q (x :: xs) acc μ := ⟨h, q⟩
theorem w_lcK {G : Mu → Prop} {g : TG2} {acc xs : List D} {d : D} (z : acc.length < sizeLine) (q : dLcs G g tt2 te2 ρ Q xs (acc ++ [d]) μ) : dLcK G g tt2 te2 ρ Q xs acc d μ := ⟨z, q⟩
theorem Kp.foreign {I0 I H0 H : Hp} {μ0 μ1 : Mu} {Dl : Addr} {o : HO} (k : Kp I0 μ0 H0 I μ1 H) (h : H0 Dl = none) : Kp I0 μ0 H0 I μ1 (upd H Dl o) := ⟨k.ex, fun b u e h1 h2 => by
  obtain ⟨x, y, z⟩ := k.fr b u e h1 h2
  exact ⟨by rw [upd_ne (ne_of_none e h)]; exact x, y, z⟩⟩
theorem At0.foreign {I H : Hp} {Dl : Addr} {o : HO} (a : At0 K μ I H) (hI : I Dl = none) (hM : μ Dl = none) : At0 K μ I (upd H Dl o) := ⟨fun b u e => by
  rw [upd_ne (ne_of_none e hI)]; exact a.sub b u e, fun b m e => by
  obtain ⟨h1, u, h2, h3⟩ := a.own b m e
  have hb : b ≠ Dl := fun z => by rw [z, hM] at e; cases e
  exact ⟨h1, u, by rw [upd_ne hb]; exact h2, h3⟩⟩
theorem re_lc [Jx] {wi : TI} {wi2 : TI2} {g : TG} {g2 : TG2} {js vs : List Nat} (hi : RI K wi wi2) (hg : RG K g g2) (ho : OnlyG g js) (ht : RT K tt tt2) (he : RE K te te2) (hj : ∀ j ∈ js, j ∈ vs) : RE K (tLc wi g tt te vs) (dLc wi2 g2 tt2 te2 vs) := fun ρ μ Q2 q I σ H hA hS Q gg => by
  refine hi ρ μ _ q I σ H hA hS _ fun J xs G μ1 I1 H1 q1 a1 k1 hJ => ?_
  intro Dl hD
  have hsW : ∀ {I' : Hp}, Exx I1 I' → Slots K I' (wipe2 ρ vs) (L2.wipe σ vs) := fun e => (hS.mono (k1.ex.trans e)).wipe vs
  refine ⟨fun i m H' => m = xs.length - i ∧ i ≤ xs.length ∧ ∃ acc ws μ' I', dLcs G g2 tt2 te2 (wipe2 ρ vs) Q2 (xs.drop i) acc μ' ∧ At K μ' I' H' ∧ H' Dl = some (.lst ws) ∧ I' Dl = none ∧ μ' Dl = none ∧ RpA K I' acc ws ∧ Kp I1 μ1 H1 I' μ' H',
    ⟨xs.length, by simp, Nat.zero_le _, [], [], μ1, I1, by simpa using q1, (a1.toAt0.foreign (a1.noI hD) (a1.noM hD)).up a1 (Kp.refl.foreign hD), upd_same, a1.noI hD, a1.noM hD, rfl, Kp.refl.foreign hD⟩, ?_⟩
  rintro i m H' ⟨rfl, hle, acc, ws, μ', I', w, a', hDl, hDI, hDM, rr, k'⟩
  by_cases hlt : i < xs.length
  · have hd : xs.drop i = xs[i] :: xs.drop (i + 1) := by rw [List.drop_eq_getElem_cons hlt]
    rw [hd] at w
    obtain ⟨hG, w⟩ := w
    obtain ⟨⟨go, yl⟩, _⟩ := (fun z => ⟨z.1 hlt, z.2⟩ : _ → _ ∧ _) (hJ i I' μ' H' k'.ex a' hG)
    refine .inr ⟨go, fun H2 => ∃ acc ws μ' I', dLcs G g2 tt2 te2 (wipe2 ρ vs) Q2 (xs.drop (i + 1)) acc μ' ∧ At K μ' I' H2 ∧ H2 Dl = some (.lst ws) ∧ I' Dl = none ∧ μ' Dl = none ∧ RpA K I' acc ws ∧ Kp I1 μ1 H1 I' μ' H2, fun H2 n => ⟨xs.length - (i + 1), by omega, rfl, hlt, n⟩, fun v H2 y => ?_⟩
    obtain ⟨d, I2, e2, a2, k2, r2⟩ := yl v H2 y
    rw [List.getElem?_eq_getElem hlt] at e2
    cases e2
    have kk := k'.trans k2
    obtain ⟨f1, f2, f3⟩ := k2.fr Dl _ hDl hDI hDM
    refine ho v _ H2 _ _ (fun σ3 H3 l3 n3 z => ⟨wipe_same hj l3 n3, z⟩) (hg _ _ μ' _ w I2 (L2.wipe σ vs) H2 v a2 (hsW kk.ex) r2 _ fun ρ3 μ3 σ3 I3 H3 q3 a3 s3 k3 => ?_)
    obtain ⟨g1, g2', g3⟩ := k3.fr Dl _ f1 f2 f3
    refine ht ρ3 μ3 _ _ q3 I3 σ3 H3 a3 s3 _ (fun μ4 I4 H4 q4 a4 k4 => ?_) (fun μ4 I4 H4 q4 a4 k4 => ?_)
    · rw [if_pos rfl]
      obtain ⟨p1, p2, p3⟩ := k4.fr Dl _ g1 g2' g3
      refine he ρ3 μ4 _ q4 I4 σ3 H4 a4 (s3.mono k4.ex) _ fun d μ5 u I5 H5 q5 a5 k5 r5 => ?_
      obtain ⟨o1, o2, o3⟩ := k5.fr Dl _ p1 p2 p3
      obtain ⟨z, q5⟩ := q5
      have kx := ((k2.trans k3).trans k4).trans k5
      refine ⟨ws, o1, by rw [rr.length]; exact z, acc ++ [d], ws ++ [u], μ5, I5, q5, (a5.toAt0.foreign o2 o3).up a1 ((k'.trans kx).foreign hD), upd_same, o2, o3, (rr.mono kx.ex).append (RpA.one r5), (k'.trans kx).foreign hD⟩
    · rw [if_neg Bool.false_ne_true]
      obtain ⟨p1, p2, p3⟩ := k4.fr Dl _ g1 g2' g3
      have kx := (k2.trans k3).trans k4
      exact ⟨acc, ws, μ4, I4, q4, a4, p1, p2, p3, rr.mono kx.ex, k'.trans kx⟩
  · have e : i = xs.length := by omega
    subst e
    rw [List.drop_length] at w
    refine .inl ⟨(hJ _ I' μ' H' k'.ex a' w.1).2 (Nat.le_refl _), ?_⟩
    have kf : Kp I μ H I' (mup μ' Dl (.lst acc)) H' := ?kf
    refine gg _ (mup μ' Dl (.lst acc)) _ I' H' (w.2 Dl hDM) (At0.up ⟨a'.sub, fun b m e => ?_⟩ hA kf) kf rfl
    · by_cases hb : b = Dl
      · subst hb; rw [mup_same] at e; cases e; exact ⟨hDI, _, hDl, ws, rfl, rr⟩
      · rw [mup_ne hb] at e; exact a'.own b m e
    case kf =>
      have kz := k1.trans k'
      refine ⟨kz.ex, fun b u e h1 h2 => ?_⟩
      obtain ⟨x, y, z⟩ := kz.fr b u e h1 h2
      obtain ⟨x1, _, _⟩ := k1.fr b u e h1 h2
      have hb : b ≠ Dl := fun z => by rw [z, hD] at x1; cases x1
      exact ⟨x, y, by rw [mup_ne hb]; exact z⟩
/-- the readings that a block has at each of its starts -/
def teOf [Jx] (K : PySem.W.Frag) (t : TE2) : TE := fun σ H Q => ∃ ρ μ I Q2, t ρ μ Q2 ∧ At K μ I H ∧ Slots K I ρ σ ∧ Go K I μ H Q2 Q
def ttOf [Jx] (K : PySem.W.Frag) (t : TT2) : TT := fun σ H Q => ∃ ρ μ I T F, t ρ μ T F ∧ At K μ I H ∧ Slots K I ρ σ ∧ GoU K I μ H T (Q true) ∧ GoU K I μ H F (Q false)
def gOf [Jx] (K : PySem.W.Frag) (g : TG2) (js : List Nat) : TG := fun v σ H Q => ∃ d ρ μ I Q2, g d ρ μ Q2 ∧ At K μ I H ∧ Slots K I ρ σ ∧ Rp K I d v ∧
  ∀ ρ' μ' σ' I' H', σ'.length = σ.length → (∀ i, i ∉ js → σ'[i]? = σ[i]?) → Q2 ρ' μ' → At K μ' I' H' → Slots K I' ρ' σ' → Kp I μ H I' μ' H' → Q σ' H'
theorem pe_can [Jx] (h : ∃ te, PE2 X e te te2) : PE X e (teOf X.K te2) := by
  obtain ⟨te, h⟩ := h
  exact ⟨fun pins s σ H Q I q => by
    obtain ⟨ρ, μ, I2, Q2, q1, q2, q3, q4⟩ := q
    exact h.pe.run pins s σ H Q I (h.re ρ μ Q2 q1 I2 σ H q2 q3 Q q4)⟩
theorem re_can [Jx] : RE K (teOf K te2) te2 := fun ρ μ Q2 q I σ H hA hS Q g => ⟨ρ, μ, I, Q2, q, hA, hS, g⟩
theorem pts_can [Jx] {ifs : List Expr} (h : ∃ tt, PTs2 X ifs tt tt2) : PTs X ifs (ttOf X.K tt2) := by
  obtain ⟨te, h⟩ := h
  exact ⟨fun pins s σ H Q I q => by
    obtain ⟨ρ, μ, I2, T, F, q1, q2, q3, q4, q5⟩ := q
    exact h.pt.run pins s σ H Q I (h.re ρ μ T F q1 I2 σ H q2 q3 Q q4 q5)⟩
theorem rt_can [Jx] : RT K (ttOf K tt2) tt2 := fun ρ μ T F q I σ H hA hS Q g1 g2 => ⟨ρ, μ, I, T, F, q, hA, hS, g1, g2⟩
theorem pg_can [Jx] {tg : Expr} {g2 : TG2} {js : List Nat} (h : ∃ g, PG2 X tg g g2 js) : PG X tg (gOf X.K g2 js) := by
  obtain ⟨g, h⟩ := h
  exact ⟨fun pins s σ H v u Q I r q => by
    obtain ⟨d, ρ, μ, I2, Q2, q1, q2, q3, q4, q5⟩ := q
    refine h.pg.run pins s σ H v u Q I r (h.only v σ H _ _ (fun σ2 H2 l n z => ?_) (h.re d ρ μ Q2 q1 I2 σ H v q2 q3 q4 (fun σ' H' => ∃ ρ' μ' I', Q2 ρ' μ' ∧ At X.K μ' I' H' ∧ Slots X.K I' ρ' σ' ∧ Kp I2 μ H I' μ' H') (fun ρ' μ' σ' I' H' a b c d => ⟨ρ', μ', I', a, b, c, d⟩)))
    obtain ⟨ρ', μ', I', a, b, c, d⟩ := z
    exact q5 ρ' μ' σ2 I' H2 l n a b c d⟩
theorem rg_can [Jx] {g2 : TG2} {js : List Nat} : RG K (gOf K g2 js) g2 := fun d ρ μ Q2 q I σ H v hA hS r Q g => ⟨d, ρ, μ, I, Q2, q, hA, hS, r, fun ρ' μ' σ' I' H' _ _ a b c d => g ρ' μ' σ' I' H' a b c d⟩
theorem only_can [Jx] {g2 : TG2} {js : List Nat} : OnlyG (gOf K g2 js) js := fun v σ H Q Q' h q => by
  obtain ⟨d, ρ, μ, I2, Q2, q1, q2, q3, q4, q5⟩ := q
  exact ⟨d, ρ, μ, I2, Q2, q1, q2, q3, q4, fun ρ' μ' σ' I' H' l n a b c d => h σ' H' l n (q5 ρ' μ' σ' I' H' l n a b c d)⟩
abbrev Blk (X : Cx) (scope : Scope) (P : Cx → Prop) : Prop := ∀ (s : Shared) (H : Hp) (C : Addr) (cl : List (Str × Addr)) (fp : List Addr), P (X.blk s H scope (compEnvC scope cl C X.env) fp)
theorem e_lc [Jx] {elt tg iter : Expr} {ifs : List Expr} {scope : Scope} {own : List (Str × Nat)} {wi : TI} {wi2 : TI2} {g2 : TG2} {js : List Nat} (hc : X.calm = true) (hN : X.N.Nodup) (hi : PI2 X tg iter wi wi2) (ok : BlkOk X.N X.env.scope scope own)
    (hg : Blk X scope fun X => ∃ g, PG2 X tg g g2 js) (ht : Blk X scope fun X => ∃ tt, PTs2 X ifs tt tt2) (he : Blk X scope fun X => ∃ te, PE2 X elt te te2) (hj : ∀ j ∈ js, j ∈ own.map (·.2) := by decide) (hs : ∀ x, foldedSetIterable iter X.env x = pure x := by intro _; rfl) :
    PE2 X (.ListComp elt [⟨tg, iter, ifs, 0⟩] scope pos) (tLc wi (gOf X.K g2 js) (ttOf X.K tt2) (teOf X.K te2) (own.map (·.2))) (dLc wi2 g2 tt2 te2 (own.map (·.2))) :=
  ⟨pe_lc hc hN hi.pi ok (fun s H C cl fp => pg_can (hg s H C cl fp)) (fun s H C cl fp => pts_can (ht s H C cl fp)) (fun s H C cl fp => pe_can (he s H C cl fp)) hs,
   re_lc hi.re rg_can only_can rt_can re_can hj⟩
theorem ps_lc [Jx] {i : Nat} {y : Str} {py spos : Pos} {elt tg iter : Expr} {ifs : List Expr} {scope : Scope} {own : List (Str × Nat)} {wi : TI} {wi2 : TI2} {g2 : TG2} {js : List Nat} (hc : X.calm = true) (hN : X.N.Nodup) (hy : X.N[i]? = some y) (hyl : X.env.scope.names.lookup y = some .local)
    (hsw : swapsWith (.ListComp elt [⟨tg, iter, ifs, 0⟩] scope pos) (some (.Name y py)) spos.line X.env = pure true) (hi : PI2 X tg iter wi wi2) (ok : BlkOk X.N X.env.scope scope own)
    (hg : Blk X scope fun X => ∃ g, PG2 X tg g g2 js) (ht : Blk X scope fun X => ∃ tt, PTs2 X ifs tt tt2) (he : Blk X scope fun X => ∃ te, PE2 X elt te te2) (hs : ∀ x, foldedSetIterable iter X.env x = pure x := by intro _; rfl) :
    PS X (.Assign [.Name y py] (.ListComp elt [⟨tg, iter, ifs, 0⟩] scope pos) spos) (tAsg (tLc wi (gOf X.K g2 js) (ttOf X.K tt2) (teOf X.K te2) (own.map (·.2))) (gName i)) :=
  ps_setLc hc hN hy hyl hsw hi.pi ok (fun s H C cl fp => pg_can (hg s H C cl fp)) (fun s H C cl fp => pts_can (ht s H C cl fp)) (fun s H C cl fp => pe_can (he s H C cl fp)) hs
theorem s_setLc [Jx] {i : Nat} {y : Str} {py spos : Pos} {elt tg iter : Expr} {ifs : List Expr} {scope : Scope} {own : List (Str × Nat)} {wi : TI} {wi2 : TI2} {g2 : TG2} {js : List Nat} (hc : X.calm = true) (hN : X.N.Nodup) (hy : X.N[i]? = some y) (hyl : X.env.scope.names.lookup y = some .local)
    (hsw : swapsWith (.ListComp elt [⟨tg, iter, ifs, 0⟩] scope pos) (some (.Name y py)) spos.line X.env = pure true) (hi : PI2 X tg iter wi wi2) (ok : BlkOk X.N X.env.scope scope own)
    (hg : Blk X scope fun X => ∃ g, PG2 X tg g g2 js) (ht : Blk X scope fun X => ∃ tt, PTs2 X ifs tt tt2) (he : Blk X scope fun X => ∃ te, PE2 X elt te te2) (hj : ∀ j ∈ js, j ∈ own.map (·.2) := by decide) (hs : ∀ x, foldedSetIterable iter X.env x = pure x := by intro _; rfl) :
    PS2 X (.Assign [.Name y py] (.ListComp elt [⟨tg, iter, ifs, 0⟩] scope pos) spos) (tAsg (tLc wi (gOf X.K g2 js) (ttOf X.K tt2) (teOf X.K te2) (own.map (·.2))) (gName i)) (dAsg (dLc wi2 g2 tt2 te2 (own.map (·.2))) (gN i)) :=
  ⟨ps_lc hc hN hy hyl hsw hi ok hg ht he hs, re_asg (re_lc hi.re rg_can only_can rt_can re_can hj) (re_gN i)⟩
end

/-! ### defs -/
abbrev XK2 := Addr → List (Str × D) → Mu → Prop
abbrev Sp2 := List D → Mu → DK → XK2 → Prop
def GoX (K : PySem.W.Frag) (I : Hp) (μ : Mu) (H : Hp) (E2 : XK2) (E : XK) : Prop := ∀ C fs μ' I' H' dx hfs, E2 C fs μ' → At0 K μ' I' H' → Kp I μ H I' μ' H' → H' dx = some (.xd hfs) → I' dx = none → RpF K I' fs hfs → E (.ref C) (some dx) H'
def toSp (K : PySem.W.Frag) (sp : Sp2) : Sp := fun vs H Q E => ∃ ds μ I Q2 E2, At0 K μ I H ∧ RpA K I ds vs ∧ sp ds μ Q2 E2 ∧ Go0 K I μ H Q2 Q ∧ GoX K I μ H E2 E
abbrev NoX : XK2 := fun _ _ _ => False
theorem goX_no {K : PySem.W.Frag} {I H : Hp} {μ : Mu} {E : XK} : GoX K I μ H NoX E := fun _ _ _ _ _ _ _ h => h.elim
/-- a def of the module that keeps a promise, and raises nothing -/
structure Df (P : Program) (w : World) (K : PySem.W.Frag) (mg : Str → Option Value) (base : Heap) (x : Str) (k : Nat) (ps : List Str) (sp : Sp2) : Prop where
  of : ∃ f fd, FnOk P w K mg base CX0 k f fd ps (toSp K sp) ∧ mg x = some (.ref f) ∧ PySem.W.keepIn K (.ref f) = true ∧ Binds K fd ps [] ∧ ∃ oc od osl, K.lookup f = some ⟨oc, od, .func fd, osl⟩
/-- a def as it stands behind the top -/
structure Tx (K : PySem.W.Frag) (mg : Str → Option Value) (x : Str) (st : Stmt) (ps : List Str) : Prop where
  of : ∃ f fd, Fun K x x st f fd ∧ mg x = some (.ref f) ∧ Binds K fd ps []
section
variable {X : Cx} {K : PySem.W.Frag} {a b c e o : Expr} {es rest : List Expr} {ta tb tc te to : TE} {ta2 tb2 tc2 te2 to2 : TE2} {pos apos cpos p tpos : Pos} {tl : TA} {tl2 : TA2} {x : Str}
variable {ρ : Env2} {μ : Mu} {Q : DK} {k j : Nat} {ps : List Str} {sp : Sp2}
def dCall (sp : Sp2) (t : TA2) : TE2 := fun ρ μ Q => t ρ μ fun ds μ1 => sp ds μ1 Q NoX
theorem w_call (h : tl2 ρ μ fun ds μ1 => sp ds μ1 Q NoX) : dCall sp tl2 ρ μ Q := h
theorem re_call [Jx] {E : XK} (h : RA K tl tl2) : RE K (tCall (toSp K sp) [] E tl) (dCall sp tl2) := fun ρ μ Q2 q I σ H hA hS Q g =>
  h ρ μ _ q I σ H hA hS _ fun ds μ1 vs I1 H1 q1 a1 k1 r1 => by
    show toSp K sp (vs ++ []) H1 Q E
    rw [List.append_nil]
    exact ⟨ds, μ1, I1, Q2, NoX, a1.toAt0, r1, q1, (g.past k1).low a1, goX_no⟩
/-- f(..) -/
theorem e_call [Jx] (F : Df X.prog X.w X.K X.mg X.base x j ps sp) (hr : Room k X.A) (hg : Gl X x) (ha : PA2 X (e :: es) tl tl2) (hjk : j ≤ k := by decide) (hdb : (x == ("__debug__" : Str)) = false := by decide) (he : starEach (e :: es) X.env = (false, eval e X.env) :: starEach es X.env := by rfl) (hpl : (backTo pos (starEach es X.env)).any (·.1) = false := by rfl) :
    PE2 X (.Call (.Name x p) (e :: es) [] pos) (tCall (toSp X.K sp) [] E0 tl) (dCall sp tl2) := by
  obtain ⟨f, fd, F, hm, hk, hb, _⟩ := F.of
  exact ⟨pe_call F (hr.mono hjk) hg hm hk hb .nil pass0 ha.pa hdb he hpl, re_call ha.re⟩
theorem e_call0 [Jx] (F : Df X.prog X.w X.K X.mg X.base x j ps sp) (hr : Room k X.A) (hg : Gl X x) (hjk : j ≤ k := by decide) (hdb : (x == ("__debug__" : Str)) = false := by decide) :
    PE2 X (.Call (.Name x p) [] [] pos) (tCall (toSp X.K sp) [] E0 tNil) (dCall sp dNil) := by
  obtain ⟨f, fd, F, hm, hk, hb, _⟩ := F.of
  exact ⟨pe_call0 F (hr.mono hjk) hg hm hk hb .nil pass0 hdb, re_call (a_nil (X := X)).re⟩
def start2 (N : List Str) (ds : List D) : Env2 := ds.map some ++ List.replicate (N.length - ds.length) none
theorem RpA.slots {I : Hp} : ∀ {ds : List D} {vs : List V}, RpA K I ds vs → Slots K I (ds.map some) (vs.map some)
  | [], _, r => by cases (show _ = _ from r); exact ⟨rfl, fun i d e => by simp at e⟩
  | d :: ds, _, r => by
    obtain ⟨v, w, rfl, r1, r2⟩ := r
    obtain ⟨l, h⟩ := RpA.slots r2
    refine ⟨by simpa using l, fun i d' e => ?_⟩
    cases i with
    | zero => simp at e; subst e; exact ⟨v, by simp, r1⟩
    | succ i => simpa using h i d' (by simpa using e)
theorem slots_start {I : Hp} {N : List Str} {ds : List D} {vs : List V} (r : RpA K I ds vs) : Slots K I (start2 N ds) (L2.start N vs) := by
  obtain ⟨l, h⟩ := r.slots
  unfold start2 L2.start
  refine ⟨by rw [List.length_append, List.length_append, l, List.length_replicate, List.length_replicate, r.length], fun i d e => ?_⟩
  by_cases hi : i < (ds.map some).length
  · rw [List.getElem?_append_left hi] at e
    rw [List.getElem?_append_left (by rw [← l]; exact hi)]
    exact h i d e
  · rw [List.getElem?_append_right (by omega)] at e
    rw [List.getElem?_replicate] at e
    split at e <;> cases e
/-- THE RULE for a def -/
theorem Tx.ok {P : Program} {w : World} {mg : Str → Option Value} {base : Heap} {st : Stmt} {N : List Str} (T : Tx K mg x st ps) (S : FnScope N ps (defScope st)) (len : ∀ ds μ Q E, sp ds μ Q E → ds.length = ps.length)
    (hb : ∀ [Jx] (f : Addr) (cdv : Value) (A : Around) (outer : List Env) (s : Shared) (H : Hp) (E : XK), Room k (A.deeper (envOfC x (defScope st) s.heap.objs.size f cdv)) →
      ∃ ts t, PSs2 (cxOf CX0 P w K mg base N x (defScope st) f cdv A outer s H E).nox (defBody st) ts t ∧ ∀ ds μ Q E2, sp ds μ Q E2 → t { nx := fun _ μ' => RtC Q .non μ', rt := RtC Q } (start2 N ds) μ) : Df P w K mg base x (k + 1) ps sp := by
  obtain ⟨f, fd, F, hm, hbd⟩ := T.of
  refine ⟨f, fd, F.ok S (fun vs H Q E h => ?_) (fun cdv A outer s H vs Q E hr h => ?_), hm, F.kp, hbd, ?_⟩
  · obtain ⟨ds, μ, I, Q2, E2, _, r, hsp, _⟩ := h
    rw [r.length]; exact len _ _ _ _ hsp
  · obtain ⟨ds, μ, I, Q2, E2, hA, r, hsp, g, gx⟩ := h
    letI := Jx.triv
    obtain ⟨ts, t, ht, hq⟩ := hb f cdv A outer s H E hr
    refine ⟨ts, ht.ps, ht.re _ _ μ (hq ds μ Q2 E2 hsp) I _ H hA.triv (slots_start r) _ (@GoS.mk Jx.triv _ _ _ _ _ _ ?_ ?_ (fun _ _ _ _ _ h => h.elim) (fun _ _ _ _ _ h => h.elim))⟩
    · rintro ρ' μ' σ' I' H' ⟨d', μ2, sh, q⟩ a' s' k'
      obtain ⟨I2, a2, k2, r2⟩ := @sh Jx.triv K I' H' .non a' rfl
      exact g d' μ2 _ I2 H' q (@At.toAt0 Jx.triv _ _ _ _ a2) (k'.trans k2) r2
    · rintro d μ' v I' H' ⟨d', μ2, sh, q⟩ a' k' r'
      obtain ⟨I2, a2, k2, r2⟩ := @sh Jx.triv K I' H' v a' r'
      exact g d' μ2 _ I2 H' q (@At.toAt0 Jx.triv _ _ _ _ a2) (k'.trans k2) r2
  · obtain ⟨oc, od, kV, doc, pm, an, cdv, ct, osl, rfl, lk, _⟩ := F.ex
    exact ⟨oc, od, osl, lk⟩
theorem Df.imp {P : Program} {w : World} {mg : Str → Option Value} {base : Heap} {sp' : Sp2} (F : Df P w K mg base x k ps sp) (h : ∀ ds μ Q E, sp' ds μ Q E → sp ds μ Q E) : Df P w K mg base x k ps sp' := by
  obtain ⟨f, fd, F, hm, hk, hb⟩ := F.of
  exact ⟨f, fd, F.imp fun vs H Q E q => by
    obtain ⟨ds, μ, I, Q2, E2, a, r, s, g⟩ := q
    exact ⟨ds, μ, I, Q2, E2, a, r, h _ _ _ _ s, g⟩, hm, hk, hb⟩
/-- the law's own promise -/
def spLaw : Sp2 := fun ds μ Q _ => ∃ ns : List Int, ds = [.scr ns] ∧ ns.length ≤ 63 ∧ ∀ μ', Q (.bl true) μ'
theorem law_in {K : PySem.W.Frag} {H : Hp} {a : Addr} {ns : List Int} (hl : ns.length ≤ 63) (hS : SqL K H a (ns.map V.int)) : toSp K spLaw [.ref a] H (fun v _ => v = .bl true) fun _ _ _ => False :=
  ⟨[.scr ns], fun _ => none, H, fun d _ => d = .bl true, NoX, ⟨fun _ _ h => h, fun _ _ h => nomatch h⟩, ⟨_, [], rfl, ⟨a, rfl, hS⟩, rfl⟩, ⟨ns, rfl, hl, fun _ => rfl⟩, fun d μ' v I' H' q _ _ r => by subst q; exact r, goX_no⟩
end
end Y

set_option Elab.async false
set_option linter.all false
set_option maxRecDepth 100000
set_option maxHeartbeats 4000000
namespace Y
open PySem PySem.Spec PyProof.Rows L2
/-- a constant of the module -/
def Gc (mg : Str → Option Value) (x : Str) (v : V) : Prop := ∃ u, mg x = some u ∧ RelV v u
def V.d : V → D
  | .int i => .int i | .str x => .str x | .bl b => .bl b | .ty n => .ty n | .ref a => .adr a | _ => .non
section
variable {X : Cx} {K : PySem.W.Frag} {a b c e o : Expr} {es rest : List Expr} {ta tb tc te to : TE} {ta2 tb2 tc2 te2 to2 : TE2} {pos apos cpos p tpos : Pos} {tt tu : TT} {tt2 tu2 : TT2} {tl : TA} {tl2 : TA2} {x : Str}
variable {ρ : Env2} {μ : Mu} {Q : DK} {T F : Mu → Prop} {st : Stmt} {sts sts' : List Stmt} {ts tz : TS} {ts2 tz2 : TS2} {D2 : Ends2}
theorem e_globS [Jx] {z : Str} (G : Gc X.mg x (.str z)) (hg : Gl X x) (hd : (x == ("__debug__" : Str)) = false := by decide) : PE2 X (.Name x pos) (tC (.str z)) (dC (.str z)) := by
  obtain ⟨u, hm, r⟩ := G
  exact e_cst (pe_glob hg hm r hd) fun _ => rfl
theorem e_globI [Jx] {z : Int} (G : Gc X.mg x (.int z)) (hg : Gl X x) (hd : (x == ("__debug__" : Str)) = false := by decide) : PE2 X (.Name x pos) (tC (.int z)) (dC (.int z)) := by
  obtain ⟨u, hm, r⟩ := G
  exact e_cst (pe_glob hg hm r hd) fun _ => rfl
/-- a built-in type as a value -/
theorem e_bty [Jx] {n : String} (hg : Gl X x) (hm : X.mg x = none) (hv : bootBuiltins x = some (.type n)) (hn : x ≠ "__name__" := by decide) (hd : (x == ("__debug__" : Str)) = false := by decide) : PE2 X (.Name x pos) (tC (.ty n)) (dC (.ty n)) := e_cst (pe_bltn hg hm hv rfl hn hd) fun _ => rfl
/-- products of all kinds -/
abbrev rvMulA : R2 := rOr rvMul (rOr rvMulW rRep)
def dMulA : DR2 := fun x y μ Q => dMul x y μ Q ∨ dMulW x y μ Q ∨ dRep x y μ Q
theorem rr_mul [Jx] : RR K rvMul dMul := rr_I
theorem rr_mulW [Jx] : RR K rvMulW dMulW := rr_I
theorem rr_mulA [Jx] : RR K rvMulA dMulA := fun x y μ Q2 q I H vx vy hA rx ry Q k => by
  rcases q with q | q | q
  · exact .inl (rr_mul x y μ Q2 q I H vx vy hA rx ry Q k)
  · exact .inr (.inl (rr_mulW x y μ Q2 q I H vx vy hA rx ry Q k))
  · exact .inr (.inr (rr_rep x y μ Q2 q I H vx vy hA rx ry Q k))
theorem e_mulA [Jx] (ha : PE2 X a ta ta2) (hb : PE2 X b tb tb2) : PE2 X (.BinOp a .Mult b pos) (tOp rvMulA ta tb) (dOp dMulA ta2 tb2) := e_op (opOr op_mul (opOr op_mulW op_rep)) rr_mulA ha hb
theorem w_mulI {i j : Int} (c : CMul i j) (q : Q (.int (i * j)) μ) : dMulA (.int i) (.int j) μ Q := .inl ⟨i, j, rfl, rfl, c, q⟩
theorem w_mulIW {i j : Int} (c : CMulW i j) (q : Q (.int (i * j)) μ) : dMulA (.int i) (.int j) μ Q := .inr (.inl ⟨i, j, rfl, rfl, c, q⟩)
theorem w_mulL {x : D} {xs : List D} {k : Int} (e1 : asL μ x = some xs) (h1 : -(2 ^ 63) ≤ k) (h2 : k < 2 ^ 63) (q : dNewL (List.replicate k.toNat xs).flatten μ Q) : dMulA x (.int k) μ Q := .inr (.inr ⟨xs, k, e1, rfl, h1, h2, q⟩)
/-- what is made stays, if it is a list -/
def dFzLK (Q : DK) : DK := fun d μ1 => Q d μ1 ∨ ∃ p ds, d = .adr p ∧ μ1 p = some (.lst ds) ∧ Q (.lst ds) (mdel μ1 p)
def dFzL (t : TE2) : TE2 := fun ρ μ Q => t ρ μ (dFzLK Q)
theorem w_fzL (h : te2 ρ μ (dFzLK Q)) : dFzL te2 ρ μ Q := h
theorem w_fzL0 {d : D} (h : Q d μ) : dFzLK Q d μ := .inl h
theorem w_fzL1 {p : Addr} {ds : List D} (h : μ p = none) (q : Q (.lst ds) μ) : dFzLK Q (.adr p) (mup μ p (.lst ds)) := .inr ⟨p, ds, rfl, mup_same, by rw [mdel_mup h]; exact q⟩
theorem re_fzL [Jx] (h : RE K te te2) : RE K te (dFzL te2) := fun ρ μ Q2 q I σ H hA hS Q g => h ρ μ _ q I σ H hA hS _ fun d μ1 v I1 H1 q1 a1 k1 r1 => by
  rcases q1 with q1 | ⟨p, ds, rfl, hp, q1⟩
  · exact g _ _ _ _ _ q1 a1 k1 r1
  · obtain ⟨hI, ho, h1, vs, rfl, h2⟩ := a1.own p _ hp
    exact g _ _ _ _ _ q1 (a1.frz hp h1) (k1.trans (Kp.frz hp hI)) ⟨p, vs, r1, upd_same, h2.mono (Exx.new hI)⟩
theorem e_fzL [Jx] (h : PE2 X e te te2) : PE2 X e te (dFzL te2) := ⟨h.pe, re_fzL h.re⟩
/-- a comprehension at a name: kept as it is -/
theorem s_setLcF [Jx] {i : Nat} {y : Str} {py spos : Pos} {elt tg iter : Expr} {ifs : List Expr} {scope : Scope} {own : List (Str × Nat)} {wi : TI} {wi2 : TI2} {g2 : TG2} {js : List Nat} (hc : X.calm = true) (hN : X.N.Nodup) (hy : X.N[i]? = some y) (hyl : X.env.scope.names.lookup y = some .local)
    (hsw : swapsWith (.ListComp elt [⟨tg, iter, ifs, 0⟩] scope pos) (some (.Name y py)) spos.line X.env = pure true) (hi : PI2 X tg iter wi wi2) (ok : BlkOk X.N X.env.scope scope own)
    (hg : Blk X scope fun X => ∃ g, PG2 X tg g g2 js) (ht : Blk X scope fun X => ∃ tt, PTs2 X ifs tt tt2) (he : Blk X scope fun X => ∃ te, PE2 X elt te te2) (hj : ∀ j ∈ js, j ∈ own.map (·.2) := by decide) (hs : ∀ x, foldedSetIterable iter X.env x = pure x := by intro _; rfl) :
    PS2 X (.Assign [.Name y py] (.ListComp elt [⟨tg, iter, ifs, 0⟩] scope pos) spos) (tAsg (tLc wi (gOf X.K g2 js) (ttOf X.K tt2) (teOf X.K te2) (own.map (·.2))) (gName i)) (dAsg (dFzL (dLc wi2 g2 tt2 te2 (own.map (·.2)))) (gN i)) :=
  ⟨ps_lc hc hN hy hyl hsw hi ok hg ht he hs, re_asg (re_fzL (re_lc hi.re rg_can only_can rt_can re_can hj)) (re_gN i)⟩
/-- a power of two -/
theorem w_shl1 {n : Nat} (h : n ≤ 1000000) (q : Q (.int ((2 ^ n : Nat) : Int)) μ) : dShl (.int 1) (.int (n : Int)) μ Q := ⟨1, n, rfl, rfl, ⟨by omega, by omega, by decide⟩, by
  have e : (1 : Int) * 2 ^ ((n : Int)).toNat = ((2 ^ n : Nat) : Int) := by simp
  show Q (.int ((1 : Int) * 2 ^ ((n : Int)).toNat)) μ
  rw [e]; exact q⟩
theorem fn_same {P : Program} {w : World} {mg : Str → Option Value} {base : Heap} {k : Nat} {f : Addr} {fd fd' : FuncData} {ps : List Str} {sp : Sp} {oc oc' : Value} {od od' : Option Addr} {osl osl' : Array (Option Value)} (F : FnOk P w K mg base CX0 k f fd ps sp) (h : K.lookup f = some ⟨oc, od, .func fd, osl⟩) (h' : K.lookup f = some ⟨oc', od', .func fd', osl'⟩) : FnOk P w K mg base CX0 k f fd' ps sp := by
  rw [h] at h'
  cases h'
  exact F
end
/-! ### looking up what is owned -/
theorem look_ne {μ : Mu} {a b : Addr} {m : MO} {r : Option MO} (h : b ≠ a) (h' : μ b = r) : mup μ a m b = r := by rw [mup_ne h]; exact h'
theorem ne_new {μ : Mu} {a b : Addr} {m : MO} (h : μ a = none) (h' : μ b = some m) : b ≠ a := fun z => by rw [z, h] at h'; cases h'
theorem ne_new' {μ : Mu} {a b : Addr} {m : MO} (h : μ a = none) (h' : μ b = some m) : a ≠ b := fun z => by rw [← z, h] at h'; cases h'
theorem none_of {μ : Mu} {a b : Addr} {m : MO} (h : mup μ a m b = none) : μ b = none := by
  by_cases e : b = a
  · subst e; rw [mup_same] at h; cases h
  · rw [mup_ne e] at h; exact h
theorem ne_of_mup {μ : Mu} {a b : Addr} {m : MO} (h : mup μ a m b = none) : b ≠ a := fun e => by subst e; rw [mup_same] at h; cases h
theorem asL_adr {μ : Mu} {p : Addr} {ds : List D} (h : μ p = some (.lst ds)) : asL μ (.adr p) = some ds := by simp [asL, h]
theorem asS_adr {μ : Mu} {p : Addr} {ds : List D} (h : μ p = some (.lst ds)) : asS μ (.adr p) = some ds := asL_adr h
theorem tyD_lst {μ : Mu} {p : Addr} {ds : List D} (h : μ p = some (.lst ds)) : tyD μ (.adr p) = some "list" := by simp [tyD, h]
theorem tyD_dk {μ : Mu} {p : Addr} {kvs : List (Key × D)} (h : μ p = some (.dk kvs)) : tyD μ (.adr p) = some "dict" := by simp [tyD, h]
theorem rsv_lst {μ : Mu} {p : Addr} {ds : List D} (h : μ p = some (.lst ds)) : rsv μ (.adr p) = .lst ds := by simp [rsv, h]
theorem sz_le {n : Nat} (h : n ≤ 10000000) : n ≤ sizeLine := Nat.le_trans h (by decide)
theorem sz_lt {n : Nat} (h : n < 10000000) : n < sizeLine := Nat.lt_of_lt_of_le h (by decide)
theorem cmul_l {i j : Int} (h1 : -18446744073709551616 < i) (h2 : i < 18446744073709551616) : CMul i j := .inl ⟨by omega, by omega⟩
theorem cmul_r {i j : Int} (h1 : -18446744073709551616 < j) (h2 : j < 18446744073709551616) : CMul i j := .inr ⟨by omega, by omega⟩
theorem cdiv_small {i j : Int} (h1 : 0 < j) (h2 : j < 1606938044258990275541962092341162602522202993782792835301376) : CDivW i j := wide_div (b := 200) h1 (by omega) (by decide) (by decide)
theorem cpow_small {i j : Int} (h1 : 0 ≤ j) (h2 : j ≤ 1000000) (h3 : i.natAbs < 2 ^ 64) : CPow i j := ⟨h1, h2, h3⟩
theorem atI_ex {α : Type} {xs : List α} {k : Int} (h0 : 0 ≤ k) (h1 : k < xs.length) : ∃ x, atI xs k = some x ∧ x ∈ xs ∧ xs[k.toNat]? = some x := by
  have hk : k.toNat < xs.length := by omega
  have e : k = ((k.toNat : Nat) : Int) := by omega
  refine ⟨xs[k.toNat], ?_, List.getElem_mem _, List.getElem?_eq_getElem hk⟩
  generalize k.toNat = j at hk e
  subst e
  exact atI_nat (List.getElem?_eq_getElem hk)
end Y

set_option Elab.async false
set_option linter.all false
set_option maxRecDepth 100000
set_option maxHeartbeats 4000000
namespace Y
open PySem PySem.Spec PyProof.Rows L2
section
variable {X : Cx} {K : PySem.W.Frag} {a b c e o : Expr} {es rest : List Expr} {ta tb tc te to : TE} {ta2 tb2 tc2 te2 to2 : TE2} {pos apos cpos p tpos : Pos} {tt tu : TT} {tt2 tu2 : TT2} {tl : TA} {tl2 : TA2} {x : Str}
variable {ρ : Env2} {μ : Mu} {Q : DK} {T F : Mu → Prop}
theorem eqv_self {x y : D} (e : x = y) (h : D.shp 64 x = true) : PyData.eqv x.py y.py = true := by
  subst e
  exact SeqAt.eqv_refl _ (shp_py h).1
/-- sorted, of whole numbers or of texts -/
def dSorted : DRC := fun xs μ Q => (∃ (x : D) (ns : List Int), xs = [x] ∧ asL μ x = some (ns.map D.int) ∧ ns.length < 64 ∧ ∀ (ns' : List Int) (p : Addr), ns'.Perm ns → ns'.Pairwise (· ≤ ·) → μ p = none → Q (.adr p) (mup μ p (.lst (ns'.map D.int)))) ∨
  ∃ (x : D) (ns : List Str), xs = [x] ∧ asL μ x = some (ns.map D.str) ∧ ns.length < 64 ∧ ∀ (ns' : List Str) (p : Addr), ns'.Perm ns → sortedS ns' = true → μ p = none → Q (.adr p) (mup μ p (.lst (ns'.map D.str)))
theorem w_sortedI {x : D} (ns : List Int) (h : asL μ x = some (ns.map D.int)) (h2 : ns.length < 64) (q : ∀ (ns' : List Int) (p : Addr), ns'.Perm ns → ns'.Pairwise (· ≤ ·) → μ p = none → Q (.adr p) (mup μ p (.lst (ns'.map D.int)))) : dSorted [x] μ Q := .inl ⟨x, ns, rfl, h, h2, q⟩
theorem w_sortedS {x : D} (ns : List Str) (h : asL μ x = some (ns.map D.str)) (h2 : ns.length < 64) (q : ∀ (ns' : List Str) (p : Addr), ns'.Perm ns → sortedS ns' = true → μ p = none → Q (.adr p) (mup μ p (.lst (ns'.map D.str)))) : dSorted [x] μ Q := .inr ⟨x, ns, rfl, h, h2, q⟩
theorem crOr {f : Value} {r r' : List V → Hp → VK → Prop} (h : CallR X f r) (h' : CallR X f r') : CallR X f (fun xs H Q => r xs H Q ∨ r' xs H Q) := by
  intro pins s σ H xs us Q I rr q
  rcases q with q | q
  · exact h pins s σ H xs us Q I rr q
  · exact h' pins s σ H xs us Q I rr q
abbrev rvSorted (K : PySem.W.Frag) : List V → Hp → VK → Prop := fun xs H Q => rSorted K xs H Q ∨ rSortedS K xs H Q
theorem rc_sorted [Jx] : RC K (rvSorted K) dSorted := fun xs μ Q2 q I H vs hA r Q k => by
  rcases q with ⟨x, ns, rfl, h, h2, q⟩ | ⟨x, ns, rfl, h, h2, q⟩
  · obtain ⟨v, rfl, e⟩ := r.one_inv
    obtain ⟨p, ws, rfl, h3, h4⟩ := asL_at hA e h
    rw [h4.ints_inv] at h3
    exact .inl ⟨p, ns, rfl, SqL.of h3, h2, fun ns' p' a b c => k _ _ _ _ _ (q ns' p' a b (hA.noM c)) (hA.got c ⟨_, rfl, RpA.ints ns'⟩) (Kp.got c) rfl⟩
  · obtain ⟨v, rfl, e⟩ := r.one_inv
    obtain ⟨p, ws, rfl, h3, h4⟩ := asL_at hA e h
    rw [h4.strs_inv] at h3
    exact .inr ⟨p, ns, rfl, SqL.of h3, h2, fun ns' p' a b c => k _ _ _ _ _ (q ns' p' a b (hA.noM c)) (hA.got c ⟨_, rfl, RpA.strs ns'⟩) (Kp.got c) rfl⟩
theorem e_sorted [Jx] (hg : Gl X "sorted") (hm : X.mg "sorted" = none) (ha : PA2 X [e] tl tl2) (hv : bootBuiltins "sorted" = some (.builtin "sorted") := by decide +kernel) (he : starEach [e] X.env = (false, eval e X.env) :: starEach [] X.env := by rfl) : PE2 X (.Call (.Name "sorted" p) [e] [] pos) (tCB (rvSorted X.K) tl) (dCB dSorted tl2) :=
  e_cb (crOr cr_sorted cr_sortedS) rc_sorted hg hm hv ha (he := he)
end
end Y

set_option Elab.async false
set_option linter.all false
set_option maxRecDepth 100000
set_option maxHeartbeats 4000000
namespace Y
open PySem PySem.Spec PyProof.Rows L2
section
variable {X : Cx} {K : PySem.W.Frag} {a b c e o : Expr} {es rest : List Expr} {ta tb tc te to : TE} {ta2 tb2 tc2 te2 to2 : TE2} {pos apos cpos p tpos : Pos} {tt tu : TT} {tt2 tu2 : TT2} {tl : TA} {tl2 : TA2} {x : Str}
variable {ρ : Env2} {μ : Mu} {Q : DK} {T F : Mu → Prop} {ts2 : TS2}
theorem w_turnE {G : Mu → Prop} {g : TG2} {d : D} {l xs : List D} {n b c : Env2 → Mu → Prop} {r : DK} (e : l = d :: xs) (h : G μ) (q : g d ρ μ fun ρ2 μ2 => ts2 ⟨Cl (dTurns G g ts2 ⟨n, r, b, c⟩ xs), r, n, Cl (dTurns G g ts2 ⟨n, r, b, c⟩ xs)⟩ ρ2 μ2) : dTurns G g ts2 ⟨n, r, b, c⟩ l ρ μ := by subst e; exact w_turn h q
theorem w_turn0E {G : Mu → Prop} {g : TG2} {l : List D} {n b c : Env2 → Mu → Prop} {r : DK} (e : l = []) (h : G μ) (q : n ρ μ) : dTurns G g ts2 ⟨n, r, b, c⟩ l ρ μ := by subst e; exact w_turn0 h q
theorem w_lcs0E {G : Mu → Prop} {g : TG2} {l acc : List D} (e : l = []) (h : G μ) (q : ∀ p, μ p = none → Q (.adr p) (mup μ p (.lst acc))) : dLcs G g tt2 te2 ρ Q l acc μ := by subst e; exact w_lcs0 h q
theorem w_lcsE {G : Mu → Prop} {g : TG2} {l acc xs : List D} {x : D} (e : l = x :: xs) (h : G μ) (q : g x ρ μ fun ρ2 μ2 => tt2 ρ2 μ2 (fun μ3 => te2 ρ2 μ3 (dLcK G g tt2 te2 ρ Q xs acc)) (fun μ3 => dLcs G g tt2 te2 ρ Q xs acc μ3)) : dLcs G g tt2 te2 ρ Q l acc μ := by subst e; exact w_lcs h q
theorem w_gNilE {l : List D} {QE : Env2 → Mu → Prop} (e : l = []) (q : QE ρ μ) : gNil2 l ρ μ QE := by subst e; exact w_gNil q
theorem w_gConsE {t : TG2} {u : TGs2} {d : D} {l r : List D} {QE : Env2 → Mu → Prop} (e : l = d :: r) (h : t d ρ μ fun ρ1 μ1 => u r ρ1 μ1 QE) : gCons2 t u l ρ μ QE := by subst e; exact w_gCons h
end
end Y

set_option Elab.async false
set_option linter.all false
set_option maxRecDepth 100000
set_option maxHeartbeats 4000000
namespace Y
open PySem PySem.Spec PyProof.Rows L2
/-! ### dicts with ints and texts as keys -/
def kD : Key → D
  | .inl i => .int i
  | .inr x => .str x
def valD : List (Key × D) → Key → Option D
  | [], _ => none
  | (k', v) :: r, k => if k' = k then some v else valD r k
def putD (kvs : List (Key × D)) (k : Key) (v : D) : List (Key × D) :=
  if (kvs.any fun kv => decide (kv.1 = k)) = true then kvs.map (fun kv => if kv.1 = k then (kv.1, v) else kv) else kvs ++ [(k, v)]
def mergeD : List (Key × D) → List (Key × D) → List (Key × D)
  | kvs, [] => kvs
  | kvs, (k, v) :: r => mergeD (putD kvs k v) r
section
variable {K : PySem.W.Frag} {I : Hp}
theorem rp_kD {k : Key} {v : V} (h : Rp K I (kD k) v) : v = kV k := by
  cases k <;> exact h
theorem rp_kV {k : Key} : Rp K I (kD k) (kV k) := by
  cases k <;> rfl
theorem valD_rp {k : Key} : ∀ {kvs : List (Key × D)} {hvs : List (Key × V)}, RpK K I kvs hvs → match valD kvs k with | some d => ∃ v, valV hvs k = some v ∧ Rp K I d v | none => valV hvs k = none
  | [], _, h => by cases h; exact rfl
  | (k', d') :: r, _, h => by
    cases h with
    | @cons _ q _ qs h t =>
      have ih := valD_rp (k := k) t
      show match (if k' = k then some d' else valD r k) with | some d => ∃ v, valV (q :: qs) k = some v ∧ Rp K I d v | none => valV (q :: qs) k = none
      by_cases e : k' = k
      · rw [if_pos e]
        exact ⟨q.2, valV_pos (h.1.symm.trans e), h.2⟩
      · rw [if_neg e, valV_neg (fun z => e (h.1.trans z))]
        exact ih
theorem rpK_any {k : Key} : ∀ {kvs : List (Key × D)} {hvs : List (Key × V)}, RpK K I kvs hvs → (kvs.any fun kv => decide (kv.1 = k)) = (hvs.any fun kv => decide (kv.1 = k))
  | [], _, h => by cases h; rfl
  | p :: r, _, h => by
    cases h with
    | @cons _ q _ qs h t => rw [List.any_cons, List.any_cons, rpK_any t, h.1]
theorem rpK_map {k : Key} {d : D} {v : V} (rv : Rp K I d v) : ∀ {kvs : List (Key × D)} {hvs : List (Key × V)}, RpK K I kvs hvs → RpK K I (kvs.map fun kv => if kv.1 = k then (kv.1, d) else kv) (hvs.map fun kv => if kv.1 = k then (kv.1, v) else kv)
  | [], _, h => by cases h; exact .nil
  | p :: r, _, h => by
    cases h with
    | @cons _ q _ qs h t =>
      rw [List.map_cons, List.map_cons]
      refine .cons ?_ (rpK_map rv t)
      by_cases e : p.1 = k
      · rw [if_pos e, if_pos (h.1.symm.trans e)]; exact ⟨h.1, rv⟩
      · rw [if_neg e, if_neg (fun z => e (h.1.trans z))]; exact h
theorem rpK_snoc {k : Key} {d : D} {v : V} (rv : Rp K I d v) : ∀ {kvs : List (Key × D)} {hvs : List (Key × V)}, RpK K I kvs hvs → RpK K I (kvs ++ [(k, d)]) (hvs ++ [(k, v)])
  | [], _, h => by cases h; exact .cons ⟨rfl, rv⟩ .nil
  | p :: r, _, h => by
    cases h with
    | @cons _ q _ qs h t => exact .cons h (rpK_snoc rv t)
theorem rpK_put {k : Key} {d : D} {v : V} {kvs : List (Key × D)} {hvs : List (Key × V)} (h : RpK K I kvs hvs) (rv : Rp K I d v) : RpK K I (putD kvs k d) (putK hvs k v) := by
  unfold putD putK
  rw [rpK_any h]
  split
  · exact rpK_map rv h
  · exact rpK_snoc rv h
theorem rpK_merge : ∀ {more kvs : List (Key × D)} {hmore hvs : List (Key × V)}, RpK K I more hmore → RpK K I kvs hvs → RpK K I (mergeD kvs more) (mergeK hvs hmore)
  | [], _, _, _, h, g => by cases h; exact g
  | (k', d') :: r, _, _, _, h, g => by
    cases h with
    | @cons _ q _ qs h t =>
      have := rpK_merge t (rpK_put (k := k') g h.2)
      rw [show mergeK _ (q :: qs) = mergeK (putK _ q.1 q.2) qs from rfl, ← h.1]
      exact this
theorem rpK_length : ∀ {kvs : List (Key × D)} {hvs : List (Key × V)}, RpK K I kvs hvs → kvs.length = hvs.length
  | [], _, h => by cases h; rfl
  | p :: r, _, h => by
    cases h with
    | @cons _ q _ qs h t => rw [List.length_cons, List.length_cons, rpK_length t]
theorem rpK_kv : ∀ {kvs : List (Key × D)} {ps : List (V × V)}, Paired (fun p q => Rp K I p.1 q.1 ∧ Rp K I p.2 q.2) (kvs.map fun kv => (kD kv.1, kv.2)) ps → ∃ hvs : List (Key × V), ps = hvs.map (fun kv => (kV kv.1, kv.2)) ∧ RpK K I kvs hvs
  | [], _, h => by rw [List.map_nil] at h; cases h; exact ⟨[], rfl, .nil⟩
  | p :: r, _, h => by
    rw [List.map_cons] at h
    cases h with
    | @cons _ q _ qs h t =>
      obtain ⟨hvs, rfl, g⟩ := rpK_kv t
      refine ⟨(p.1, q.2) :: hvs, ?_, .cons ⟨rfl, h.2⟩ g⟩
      rw [List.map_cons, ← rp_kD h.1]
end
section
variable {X : Cx} {K : PySem.W.Frag} {a b c e o i : Expr} {es rest : List Expr} {ta tb tc te to ti : TE} {ta2 tb2 tc2 te2 to2 ti2 : TE2} {pos apos cpos p tpos : Pos} {tt tu : TT} {tt2 tu2 : TT2} {tl : TA} {tl2 : TA2} {x : Str}
variable {ρ : Env2} {μ : Mu} {Q : DK} {T F : Mu → Prop} {st : Stmt} {k : Nat}
def dDGet : DR2 := fun x y μ Q => ∃ a kvs k d, x = .adr a ∧ μ a = some (.dk kvs) ∧ y = kD k ∧ valD kvs k = some d ∧ Q d μ
theorem w_dgetS {p : Addr} {kvs : List (Key × D)} {z : Str} {d : D} (h : μ p = some (.dk kvs)) (h2 : valD kvs (.inr z) = some d) (q : Q d μ) : dDGet (.adr p) (.str z) μ Q := ⟨p, kvs, .inr z, d, rfl, h, rfl, h2, q⟩
theorem w_dgetI {p : Addr} {kvs : List (Key × D)} {z : Int} {d : D} (h : μ p = some (.dk kvs)) (h2 : valD kvs (.inl z) = some d) (q : Q d μ) : dDGet (.adr p) (.int z) μ Q := ⟨p, kvs, .inl z, d, rfl, h, rfl, h2, q⟩
theorem at_dk [Jx] {I H : Hp} {kvs : List (Key × D)} {p : Addr} (hA : At K μ I H) (h : μ p = some (.dk kvs)) : ∃ hvs, H p = some (.dK hvs) ∧ RpK K I kvs hvs := by
  obtain ⟨_, ho, h1, hvs, rfl, r⟩ := hA.own p _ h
  exact ⟨hvs, h1, r⟩
theorem e_dget [Jx] (hr : Room k X.A) (ho : PE2 X o to to2) (hi : PE2 X i ti ti2) (hs : NoSl i) : PE2 X (.Subscript o i pos) (tDGet to ti) (dOp dDGet to2 ti2) :=
  ⟨pe_dget (Nat.lt_of_le_of_lt (Nat.add_le_add_left (by decide) _) hr.units) ho.pe hi.pe hs, fun ρ μ Q2 q I σ H hA hS Q g => ho.re ρ μ _ q I σ H hA hS _ fun x μ1 vx I1 H1 q1 a1 k1 r1 => hi.re ρ μ1 _ q1 I1 σ H1 a1 (hS.mono k1.ex) _ fun y μ2 vy I2 H2 q2 a2 k2 r2 => by
    obtain ⟨p, kvs, k, d, rfl, h, rfl, e, q3⟩ := q2
    obtain ⟨hvs, h1, r⟩ := at_dk a2 h
    have hv := valD_rp (k := k) r
    rw [e] at hv
    obtain ⟨v, e1, rv⟩ := hv
    cases rp_kD r2
    exact ⟨p, v, r1, e1 ▸ DGet.k h1, g _ _ _ _ _ q3 a2 (k1.trans k2) rv⟩⟩
def dInD : DR2 := fun y x μ Q => ∃ a kvs k, x = .adr a ∧ μ a = some (.dk kvs) ∧ y = kD k ∧ Q (.bl (valD kvs k).isSome) μ
def dNotInD : DR2 := fun y x μ Q => ∃ a kvs k, x = .adr a ∧ μ a = some (.dk kvs) ∧ y = kD k ∧ Q (.bl (!(valD kvs k).isSome)) μ
theorem w_inDS {p : Addr} {kvs : List (Key × D)} {z : Str} (h : μ p = some (.dk kvs)) (q : Q (.bl (valD kvs (.inr z)).isSome) μ) : dInD (.str z) (.adr p) μ Q := ⟨p, kvs, .inr z, rfl, h, rfl, q⟩
theorem w_inDI {p : Addr} {kvs : List (Key × D)} {z : Int} (h : μ p = some (.dk kvs)) (q : Q (.bl (valD kvs (.inl z)).isSome) μ) : dInD (.int z) (.adr p) μ Q := ⟨p, kvs, .inl z, rfl, h, rfl, q⟩
theorem w_notInDS {p : Addr} {kvs : List (Key × D)} {z : Str} (h : μ p = some (.dk kvs)) (q : Q (.bl (!(valD kvs (.inr z)).isSome)) μ) : dNotInD (.str z) (.adr p) μ Q := ⟨p, kvs, .inr z, rfl, h, rfl, q⟩
theorem w_notInDI {p : Addr} {kvs : List (Key × D)} {z : Int} (h : μ p = some (.dk kvs)) (q : Q (.bl (!(valD kvs (.inl z)).isSome)) μ) : dNotInD (.int z) (.adr p) μ Q := ⟨p, kvs, .inl z, rfl, h, rfl, q⟩
theorem val_some {I : Hp} {kvs : List (Key × D)} {hvs : List (Key × V)} {k : Key} (r : RpK K I kvs hvs) : (valV hvs k).isSome = (valD kvs k).isSome := by
  have hv := valD_rp (k := k) r
  cases e : valD kvs k with
  | none => rw [e] at hv; rw [hv]; rfl
  | some d => rw [e] at hv; obtain ⟨v, e1, _⟩ := hv; rw [e1]; rfl
theorem re_inD [Jx] (hi : RE K ti ti2) (ho : RE K to to2) : RE K (tDIn ti to) (dOp dInD ti2 to2) := fun ρ μ Q2 q I σ H hA hS Q g => hi ρ μ _ q I σ H hA hS _ fun x μ1 vx I1 H1 q1 a1 k1 r1 => ho ρ μ1 _ q1 I1 σ H1 a1 (hS.mono k1.ex) _ fun y μ2 vy I2 H2 q2 a2 k2 r2 => by
    obtain ⟨p, kvs, k, rfl, h, rfl, q3⟩ := q2
    obtain ⟨hvs, h1, r⟩ := at_dk a2 h
    cases rp_kD r1
    exact ⟨p, _, r2, DGet.k h1, g _ _ _ _ _ q3 a2 (k1.trans k2) (by rw [val_some r]; rfl)⟩
theorem re_notInD [Jx] (hi : RE K ti ti2) (ho : RE K to to2) : RE K (tDNotIn ti to) (dOp dNotInD ti2 to2) := fun ρ μ Q2 q I σ H hA hS Q g => hi ρ μ _ q I σ H hA hS _ fun x μ1 vx I1 H1 q1 a1 k1 r1 => ho ρ μ1 _ q1 I1 σ H1 a1 (hS.mono k1.ex) _ fun y μ2 vy I2 H2 q2 a2 k2 r2 => by
    obtain ⟨p, kvs, k, rfl, h, rfl, q3⟩ := q2
    obtain ⟨hvs, h1, r⟩ := at_dk a2 h
    cases rp_kD r1
    exact ⟨p, _, r2, DGet.k h1, g _ _ _ _ _ q3 a2 (k1.trans k2) (by rw [val_some r]; rfl)⟩
theorem e_inD [Jx] (hr : Room k X.A) (hi : PE2 X i ti ti2) (ho : PE2 X o to to2) (hm : behindInMarks .In o = false) : PE2 X (.Compare i [.In] [o] pos) (tDIn ti to) (dOp dInD ti2 to2) := ⟨pe_cmp (pc_din (Nat.lt_of_le_of_lt (Nat.add_le_add_left (by decide) _) hr.units) hi.pe ho.pe) hm, re_inD hi.re ho.re⟩
theorem e_notInD [Jx] (hr : Room k X.A) (hi : PE2 X i ti ti2) (ho : PE2 X o to to2) (hm : behindInMarks .NotIn o = false) : PE2 X (.Compare i [.NotIn] [o] pos) (tDNotIn ti to) (dOp dNotInD ti2 to2) := ⟨pe_cmp (pc_dnotin (Nat.lt_of_le_of_lt (Nat.add_le_add_left (by decide) _) hr.units) hi.pe ho.pe) hm, re_notInD hi.re ho.re⟩
/-! ### a display -/
def dPairs : List (TE2 × TE2) → Env2 → Mu → (List (D × D) → Mu → Prop) → Prop
  | [], _, μ, Q => Q [] μ
  | (tk, tv) :: r, ρ, μ, Q => tk ρ μ fun x μ1 => tv ρ μ1 fun y μ2 => dPairs r ρ μ2 fun ps μ3 => Q ((x, y) :: ps) μ3
def dDispK (p : Addr) (Q : DK) : List (D × D) → Mu → Prop := fun ps μ2 => μ2 p = some (.dk []) ∧ ∃ kvs : List (Key × D), ps = kvs.map (fun kv => (kD kv.1, kv.2)) ∧ kvs.length ≤ 15 ∧ Q (.adr p) (mup μ2 p (.dk (mergeD [] kvs)))
def dDisp (trs : List (TE2 × TE2)) : TE2 := fun ρ μ Q => ∀ p, μ p = none → dPairs trs ρ (mup μ p (.dk [])) (dDispK p Q)
structure PD2 [Jx] (X : Cx) (pos : Pos) (ks : List (Option Expr)) (vs : List Expr) (trs : List (TE × TE)) (trs2 : List (TE2 × TE2)) : Prop where
  pp : PPs X pos ks vs trs
  re : ∀ ρ μ Q2, dPairs trs2 ρ μ Q2 → ∀ I σ H, At X.K μ I H → Slots X.K I ρ σ → ∀ Q : List (V × V) → Hp → Prop,
    (∀ ps μ' vs I' H', Q2 ps μ' → At X.K μ' I' H' → Kp I μ H I' μ' H' → Paired (fun p q => Rp X.K I' p.1 q.1 ∧ Rp X.K I' p.2 q.2) ps vs → Q vs H') → tPairs trs σ H Q
theorem dd_nil [Jx] : PD2 X pos [] [] [] [] := ⟨pps_nil, fun ρ μ Q2 q I σ H hA hS Q g => g _ _ _ _ _ q hA Kp.refl .nil⟩
theorem dd_cons [Jx] {kx vx : Expr} {ks : List (Option Expr)} {vs : List Expr} {trs : List (TE × TE)} {trs2 : List (TE2 × TE2)} (hk : PE2 X kx ti ti2) (hv : PE2 X vx te te2) (h : PD2 X pos ks vs trs trs2) : PD2 X pos (some kx :: ks) (vx :: vs) ((ti, te) :: trs) ((ti2, te2) :: trs2) :=
  ⟨pps_cons hk.pe hv.pe h.pp, fun ρ μ Q2 q I σ H hA hS Q g => hk.re ρ μ _ q I σ H hA hS _ fun x μ1 wx I1 H1 q1 a1 k1 r1 => hv.re ρ μ1 _ q1 I1 σ H1 a1 (hS.mono k1.ex) _ fun y μ2 wy I2 H2 q2 a2 k2 r2 =>
    h.re ρ μ2 _ q2 I2 σ H2 a2 (hS.mono (k1.ex.trans k2.ex)) _ fun ps μ3 ws I3 H3 q3 a3 k3 r3 => g _ _ _ _ _ q3 a3 ((k1.trans k2).trans k3) (.cons ⟨(r1.mono k2.ex).mono k3.ex, r2.mono k3.ex⟩ r3)⟩
theorem e_dict [Jx] {ks : List (Option Expr)} {vs : List Expr} {trs : List (TE × TE)} {trs2 : List (TE2 × TE2)} (h : PD2 X pos ks vs trs trs2) (hall : ks.all (·.isSome) = true := by rfl) (hl : ks.length = vs.length := by rfl) (h0 : ks ≠ [] := by simp) (h15 : ks.length ≤ 15 := by decide) : PE2 X (.Dict ks vs pos) (tDisp trs) (dDisp trs2) :=
  ⟨pe_disp h.pp hall hl h0 h15, fun ρ μ Q2 q I σ H hA hS Q g p hp => by
    have hm := hA.noM hp
    have a0 : At X.K (mup μ p (.dk [])) I (upd H p (.dK [])) := hA.got hp ⟨[], rfl, .nil⟩
    refine h.re ρ _ _ (q p hm) I σ _ a0 hS _ fun ps μ2 vs I2 H2 q2 a2 k2 r2 => ?_
    obtain ⟨e, kvs, rfl, l15, q3⟩ := q2
    obtain ⟨hvs, h1, r⟩ := at_dk a2 e
    cases r
    obtain ⟨hk, rfl, rk⟩ := rpK_kv r2
    refine ⟨h1, hk, rfl, by rw [← rpK_length rk]; exact l15, ?_⟩
    have rm := rpK_merge rk (.nil : RpK X.K I2 [] [])
    exact g _ _ _ _ _ q3 (a2.put e ⟨_, rfl, rm⟩) (((Kp.got hp).trans k2).trans (Kp.put e)) rfl⟩
theorem w_disp {trs : List (TE2 × TE2)} (h : ∀ p, μ p = none → dPairs trs ρ (mup μ p (.dk [])) (dDispK p Q)) : dDisp trs ρ μ Q := h
theorem w_pairs0 {QA : List (D × D) → Mu → Prop} (h : QA [] μ) : dPairs [] ρ μ QA := h
theorem w_pairs {trs : List (TE2 × TE2)} {QA : List (D × D) → Mu → Prop} (h : ti2 ρ μ fun x μ1 => te2 ρ μ1 fun y μ2 => dPairs trs ρ μ2 fun ps μ3 => QA ((x, y) :: ps) μ3) : dPairs ((ti2, te2) :: trs) ρ μ QA := h
theorem w_dispK {p : Addr} {ps : List (D × D)} (kvs : List (Key × D)) (h : μ p = some (.dk [])) (e : ps = kvs.map fun kv => (kD kv.1, kv.2)) (l : kvs.length ≤ 15) (q : Q (.adr p) (mup μ p (.dk (mergeD [] kvs)))) : dDispK p Q ps μ := ⟨h, kvs, e, l, q⟩
end
end Y

set_option Elab.async false
set_option linter.all false
set_option maxRecDepth 100000
set_option maxHeartbeats 4000000
namespace Y
open PySem PySem.Spec PyProof.Rows L2
mutual
/-- whole numbers, texts, None and rows of them: equal if and only if they are the same -/
def D.pln : D → Bool
  | .non => true
  | .int _ => true
  | .str _ => true
  | .tup ds => D.plnA ds
  | .lst ds => D.plnA ds
  | _ => false
def D.plnA : List D → Bool
  | [] => true
  | d :: ds => D.pln d && D.plnA ds
end
mutual
theorem eqv_pln : ∀ {x y : D}, D.pln x = true → D.pln y = true → (PyData.eqv x.py y.py = true ↔ x = y)
  | .non, y, h, g => by
    cases y <;> first | (cases g; done) | (constructor <;> intro e <;> first | rfl | cases e)
  | .int i, y, h, g => by
    cases y with
    | int j => show (i == j) = true ↔ _; rw [beq_iff_eq]; exact ⟨fun e => by rw [e], fun e => by cases e; rfl⟩
    | non => constructor <;> intro e <;> cases e
    | str _ => constructor <;> intro e <;> cases e
    | tup _ => constructor <;> intro e <;> cases e
    | lst _ => constructor <;> intro e <;> cases e
    | _ => cases g
  | .str i, y, h, g => by
    cases y with
    | str j => show (i == j) = true ↔ _; rw [beq_iff_eq]; exact ⟨fun e => by rw [e], fun e => by cases e; rfl⟩
    | non => constructor <;> intro e <;> cases e
    | int _ => constructor <;> intro e <;> cases e
    | tup _ => constructor <;> intro e <;> cases e
    | lst _ => constructor <;> intro e <;> cases e
    | _ => cases g
  | .tup xs, y, h, g => by
    cases y with
    | tup ys => show PyData.eqvAll (D.pyA xs) (D.pyA ys) = true ↔ _; rw [eqvA_pln h g]; exact ⟨fun e => by rw [e], fun e => by cases e; rfl⟩
    | non => constructor <;> intro e <;> cases e
    | int _ => constructor <;> intro e <;> cases e
    | str _ => constructor <;> intro e <;> cases e
    | lst _ => constructor <;> intro e <;> cases e
    | _ => cases g
  | .lst xs, y, h, g => by
    cases y with
    | lst ys => show PyData.eqvAll (D.pyA xs) (D.pyA ys) = true ↔ _; rw [eqvA_pln h g]; exact ⟨fun e => by rw [e], fun e => by cases e; rfl⟩
    | non => constructor <;> intro e <;> cases e
    | int _ => constructor <;> intro e <;> cases e
    | str _ => constructor <;> intro e <;> cases e
    | tup _ => constructor <;> intro e <;> cases e
    | _ => cases g
  | .bl _, _, h, _ => by cases h
  | .ty _, _, h, _ => by cases h
  | .adr _, _, h, _ => by cases h
  | .obj _ _ _, _, h, _ => by cases h
  | .scr _, _, h, _ => by cases h
theorem eqvA_pln : ∀ {xs ys : List D}, D.plnA xs = true → D.plnA ys = true → (PyData.eqvAll (D.pyA xs) (D.pyA ys) = true ↔ xs = ys)
  | [], [], _, _ => by constructor <;> intro _ <;> rfl
  | [], _ :: _, _, _ => by constructor <;> intro e <;> cases e
  | _ :: _, [], _, _ => by constructor <;> intro e <;> cases e
  | x :: xs, y :: ys, h, g => by
    unfold D.plnA at h g
    rw [Bool.and_eq_true] at h g
    show (PyData.eqv x.py y.py && PyData.eqvAll (D.pyA xs) (D.pyA ys)) = true ↔ _
    rw [Bool.and_eq_true, eqv_pln h.1 g.1, eqvA_pln h.2 g.2]
    exact ⟨fun e => by rw [e.1, e.2], fun e => by cases e; exact ⟨rfl, rfl⟩⟩
end
theorem plnA_all : ∀ {ds : List D}, (∀ d ∈ ds, D.pln d = true) → D.plnA ds = true
  | [], _ => rfl
  | d :: ds, h => by
    unfold D.plnA
    rw [h d List.mem_cons_self, plnA_all fun e he => h e (List.mem_cons_of_mem _ he)]; rfl
theorem shpA_all {n : Nat} : ∀ {ds : List D}, (∀ d ∈ ds, D.shp n d = true) → D.shpA n ds = true
  | [], _ => by cases n <;> rfl
  | d :: ds, h => by
    unfold D.shpA
    rw [h d List.mem_cons_self, shpA_all fun e he => h e (List.mem_cons_of_mem _ he)]; rfl
theorem eqv_dec {x y : D} (h : D.pln x = true) (g : D.pln y = true) [Decidable (x = y)] : PyData.eqv x.py y.py = decide (x = y) := by
  have e := eqv_pln h g
  by_cases z : x = y
  · rw [decide_eq_true z]; exact e.mpr z
  · rw [decide_eq_false z]
    cases q : PyData.eqv x.py y.py with
    | false => rfl
    | true => exact absurd (e.mp q) z
/-- whole numbers -/
abbrev intsD (ns : List Int) : D := .lst (ns.map D.int)
abbrev natsD (ns : List Nat) : D := .lst (ns.map fun n : Nat => D.int (n : Int))
theorem shp_nats {ns : List Nat} : D.shp 64 (natsD ns) = true := shpA_all (n := 63) fun d h => by
  simp only [List.mem_map] at h
  obtain ⟨i, _, rfl⟩ := h; rfl
theorem pln_nats {ns : List Nat} : D.pln (natsD ns) = true := plnA_all fun d h => by
  simp only [List.mem_map] at h
  obtain ⟨i, _, rfl⟩ := h; rfl
theorem nats_inj : ∀ {a b : List Nat}, a.map (fun n : Nat => D.int (n : Int)) = b.map (fun n : Nat => D.int (n : Int)) → a = b
  | [], [], _ => rfl
  | [], _ :: _, h => by cases h
  | _ :: _, [], h => by cases h
  | x :: a, y :: b, h => by
    rw [List.map_cons, List.map_cons] at h
    injection h with h1 h2
    injection h1 with h1
    rw [nats_inj h2, Int.ofNat.inj h1]
theorem eqv_nats {a b : List Nat} : PyData.eqv (natsD a).py (natsD b).py = decide (a = b) := by
  have e := eqv_pln (pln_nats (ns := a)) (pln_nats (ns := b))
  by_cases z : a = b
  · rw [decide_eq_true z]; exact e.mpr (by rw [z])
  · rw [decide_eq_false z]
    cases q : PyData.eqv (natsD a).py (natsD b).py with
    | false => rfl
    | true => exact absurd (nats_inj (by injection e.mp q)) z
theorem Sub.del {μ μ' : Mu} {p : Addr} (h : Sub μ μ') (hp : μ p = none) : Sub μ (mdel μ' p) := fun b m e => by
  have hb : b ≠ p := fun z => by rw [z, hp] at e; cases e
  rw [mdel_ne hb]; exact h b m e
def keyD : D → Key
  | .str x => .inr x
  | .int i => .inl i
  | _ => .inl 0
def prKs : List (D × D) → List (Key × D)
  | [] => []
  | (x, y) :: r => (keyD x, y) :: prKs r
theorem w_dispE {μ : Mu} {Q : DK} {p : Addr} {ps : List (D × D)} (h : μ p = some (.dk [])) (e : ps = (prKs ps).map fun kv => (kD kv.1, kv.2)) (l : (prKs ps).length ≤ 15) (q : Q (.adr p) (mup μ p (.dk (mergeD [] (prKs ps))))) : dDispK p Q ps μ := w_dispK _ h e l q
theorem none_sub {μ μ' : Mu} {p : Addr} (s : Sub μ μ') (h : μ' p = none) : μ p = none := by
  cases q : μ p with
  | none => rfl
  | some m => rw [s _ _ q] at h; cases h
section
variable {ρ : Env2} {μ : Mu} {Q : DK} {tt2 : TT2} {te2 : TE2} {T F : Mu → Prop}
theorem br_eqv {A B : Prop} {x y : D} (h : D.pln x = true) (g : D.pln y = true) (t : x = y → A) (f : x ≠ y → B) : Br (PyData.eqv x.py y.py) A B := by
  cases q : PyData.eqv x.py y.py with
  | true => exact br_t (t ((eqv_pln h g).mp q))
  | false => exact br_f (f fun e => by rw [(eqv_pln h g).mpr e] at q; cases q)
/-- a comprehension by what holds between its turns -/
theorem w_lcInv {G : Mu → Prop} {g : TG2} (Iv : List D → List D → Mu → Prop) (hG : ∀ xs acc μ, Iv xs acc μ → G μ ∧ acc.length < sizeLine)
    (hs : ∀ x xs acc μ, Iv (x :: xs) acc μ → ∀ (N : DK) (N0 : Mu → Prop), (∀ d μ', Iv xs (acc ++ [d]) μ' → N d μ') → (∀ μ', Iv xs acc μ' → N0 μ') → g x ρ μ fun ρ2 μ2 => tt2 ρ2 μ2 (fun μ3 => te2 ρ2 μ3 N) N0)
    (hd : ∀ acc μ, Iv [] acc μ → ∀ p, μ p = none → Q (.adr p) (mup μ p (.lst acc))) : ∀ xs acc μ, Iv xs acc μ → dLcs G g tt2 te2 ρ Q xs acc μ
  | [], acc, μ, h => ⟨(hG _ _ _ h).1, hd acc μ h⟩
  | x :: xs, acc, μ, h => ⟨(hG _ _ _ h).1, hs x xs acc μ h _ _ (fun d μ' h' => ⟨(hG _ _ _ h).2, w_lcInv Iv hG hs hd xs _ μ' h'⟩) fun μ' h' => w_lcInv Iv hG hs hd xs acc μ' h'⟩
/-- .. of one thing for each item, where nothing changes -/
theorem w_lcMap {G : Mu → Prop} {g : TG2} (f : D → D) (hG : G μ) {xs : List D} (hl : xs.length < sizeLine) (hs : ∀ x ∈ xs, ∀ (N : DK) (N0 : Mu → Prop), N (f x) μ → g x ρ μ fun ρ2 μ2 => tt2 ρ2 μ2 (fun μ3 => te2 ρ2 μ3 N) N0)
    (hd : ∀ p, μ p = none → Q (.adr p) (mup μ p (.lst (xs.map f)))) : dLcs G g tt2 te2 ρ Q xs [] μ := by
  refine w_lcInv (fun ys acc μ' => μ' = μ ∧ (∃ zs, zs ++ ys = xs ∧ acc = zs.map f)) ?_ ?_ ?_ xs [] μ ⟨rfl, [], rfl, rfl⟩
  · rintro ys acc _ ⟨rfl, zs, rfl, rfl⟩
    refine ⟨hG, ?_⟩
    rw [List.length_append] at hl
    rw [List.length_map]; omega
  · rintro x ys acc _ ⟨rfl, zs, rfl, rfl⟩ N N0 h _
    refine hs x (List.mem_append_right _ List.mem_cons_self) N N0 (h _ _ ⟨rfl, zs ++ [x], by simp, by simp⟩)
  · rintro acc _ ⟨rfl, zs, rfl, rfl⟩ p hp
    rw [List.append_nil] at hd
    exact hd p hp
end
end Y

set_option Elab.async false
set_option linter.all false
set_option maxRecDepth 100000
set_option maxHeartbeats 4000000
namespace PySem
open Sem (wp)
open AutoSeq1 (wpAny_loadPart')
section
variable {prog : Program} {w : World} {A : Around} {E : Value → Shared → Prop} {s : Shared}
theorem code_tuple_new_text {x : Str} {t : Tok} {Q₁ : Value → Shared → Prop} (hh : A.handled = none) (hn : x.cps.size ≤ sizeLine)
    (h : ∀ (s' : Shared) (acc : Array Value), (∀ b o, s.heap.get? b = some o → s'.heap.get? b = some o) → s'.gens = s.gens → s'.drawn = s.drawn → s'.os = s.os → ItemsOf (SignAt x) acc x.cps.size →
      Q₁ (.ref s'.heap.objs.size) { s' with heap := s'.heap.push { cls := .type "tuple", data := .seq acc } }) :
    codeAny (model prog w) A (.call (.builtin "tuple.__new__") ⟨[.type "tuple", .str x t], []⟩) (wants Q₁ E) s := by
  refine codeAny_of_tree ?_
  show wpAny _ A.in1 (do checkBuiltinCall "tuple.__new__" ⟨[.type "tuple", .str x t], []⟩; again (.builtin "tuple.__new__" ⟨[.type "tuple", .str x t], []⟩)) _ _ s
  refine wpAny_bind (wpAny_of_eq (F.newCall_tuple_1 _) (wpAny_pure ⟨plainId_quiet F.plain_tuple_new _, codeAny_builtin F.entry_tuple_new ?_⟩))
  rw [Around.under_plainId F.plain_tuple_new _]
  have hsub := sub_tuple_self
  have hinit := init_tuple_lookup
  have hmh := madeHere_tuple
  have hTI : s.TypeIs (.str x t) "str" := rfl
  have hh1 : A.in1.handled = none := hh
  wp_walk using wpAny_typeOf hTI, wpAny_collect_str (A := A.in1) (hn := hn) hh1 x t
  intro s' acc hk hg hd ho hacc
  show wpAny _ _ (Builtin.Tuple.tupleExact acc.toList.toArray >>= fun v => ret v) _ _ _
  unfold Builtin.Tuple.tupleExact
  refine wpAny_bind (wpAny_newObj_type ?_ (by show acc.toList.toArray.size ≤ sizeLine; simp only [Array.toArray_toList]; rw [hacc.1]; exact hn))
  refine wpAny_pure ?_
  have e : acc.toList.toArray = acc := by simp
  rw [e]
  exact h s' acc hk hg hd ho hacc
theorem call_tuple_text {x : Str} {t : Tok} {Q : Value → Shared → Prop} (hh : A.handled = none) (hn : x.cps.size ≤ sizeLine)
    (hQ : ∀ (s' : Shared) (acc : Array Value), (∀ b o, s.heap.get? b = some o → s'.heap.get? b = some o) → s'.gens = s.gens → s'.drawn = s.drawn → s'.os = s.os → ItemsOf (SignAt x) acc x.cps.size →
      Q (.ref s'.heap.objs.size) { s' with heap := s'.heap.push { cls := .type "tuple", data := .seq acc } }) :
    wpAny (model prog w) A (call (.type "tuple") [.str x t]) Q E s := by
  refine callType_codes (Q₁ := fun obj s₁ => s₁.TypeIs obj "tuple" ∧ Q obj s₁) F.called_tuple (F.typeCall_tuple_1 _) F.entry_object_init
    (code_tuple_new_text (A := A.in1) hh hn fun s' acc hk hg hd ho hacc => ⟨⟨_, Heap.get?_push_size _ rfl, rfl⟩, hQ s' acc hk hg hd ho hacc⟩) fun obj s₁ h₁ => ?_
  exact ⟨h₁.1, F.args_object_init_2 obj _, object_init_meets F.called_tuple.init.lookup F.called_tuple.made (by decide) prog w A.in1 _ s₁ ⟨h₁.1, rfl, h₁.2⟩⟩
end
end PySem
namespace Y
open PySem PySem.Spec PyProof.Rows L2
theorem asL_lst {μ : Mu} {ds : List D} : asL μ (.lst ds) = some ds := rfl
theorem asS_lst {μ : Mu} {ds : List D} : asS μ (.lst ds) = some ds := rfl
theorem asS_tup {μ : Mu} {ds : List D} : asS μ (.tup ds) = some ds := rfl
/-- the signs of a text -/
abbrev sgV (z : Str) : List V := z.cps.toList.map fun c => V.str ⟨#[c]⟩
abbrev sgD (z : Str) : List D := z.cps.toList.map fun c => D.str ⟨#[c]⟩
theorem vals_signs : ∀ {l : List Nat} {us : List Value}, us.length = l.length → (∀ (j : Nat) (v : Value), us[j]? = some v → ∃ (c : Nat) (u : Tok), l[j]? = some c ∧ v = Value.str ⟨#[c]⟩ u) → Vals (l.map fun c => V.str ⟨#[c]⟩) us
  | [], [], _, _ => .nil
  | [], _ :: _, h, _ => by cases h
  | _ :: _, [], h, _ => by cases h
  | c :: l, u :: us, h, g => by
    obtain ⟨c', t, e, rfl⟩ := g 0 u rfl
    cases e
    exact .cons ⟨t, rfl⟩ (vals_signs (Nat.succ.inj h) fun j v e => by simpa using g (j + 1) v (by simpa using e))
theorem vals_text {x : Str} {acc : Array Value} (h : ItemsOf (SignAt x) acc x.cps.size) : Vals (sgV x) acc.toList :=
  vals_signs (by rw [Array.length_toList, h.1, Array.length_toList]) fun j v e => by
    obtain ⟨c, u, e1, e2⟩ := h.2 j v (by rw [← Array.getElem?_toList]; exact e)
    exact ⟨c, u, by rw [Array.getElem?_toList]; exact e1, e2⟩
section
variable {X : Cx}
theorem call_listText (hc : X.calm = true) : CallR X (.type "list") (fun xs H Q => ∃ z : Str, xs = [.str z] ∧ z.length ≤ sizeLine ∧ ∀ l, H l = none → Q (.ref l) (upd H l (.lst (sgV z)))) := by
  intro pins s σ H xs us Q I r h
  obtain ⟨z, rfl, hz, q⟩ := h
  obtain ⟨u, rfl, t, rfl⟩ := vals1 r
  refine call_list_str (hn := hz) (I.ok.hd hc) z t fun h' tk acc c' hk hS hacc => ?_
  refine ⟨.ref s.heap.objs.size, _, I.laid (t' := tk) hk (Nat.le_refl _) (show ObjOk X.prog X.w _ h' _ (.lst (sgV z)) from ⟨?_, acc.toList, c', vals_text hacc, by rw [Array.toArray_toList]; exact hS⟩), rfl, q _ (I.hok.fresh (Nat.le_refl _))⟩
  rw [List.length_map, Array.length_toList]; exact hz
theorem call_tupText (hc : X.calm = true) : CallR X (.type "tuple") (fun xs H Q => ∃ z : Str, xs = [.str z] ∧ z.length ≤ sizeLine ∧ ∀ l, H l = none → Q (.ref l) (upd H l (.tup (sgV z)))) := by
  intro pins s σ H xs us Q I r h
  obtain ⟨z, rfl, hz, q⟩ := h
  obtain ⟨u, rfl, t, rfl⟩ := vals1 r
  refine call_tuple_text (I.ok.hd hc) hz fun s' acc hk hg hd ho hacc => ?_
  obtain ⟨h', g', d', tk, os⟩ := s'
  cases hg; cases hd; cases ho
  have I1 : Inv X pins σ H { s with heap := h', toks := tk } := I.kept (t' := tk) hk
  have hlen : acc.size ≤ sizeLine := by rw [hacc.1]; exact hz
  have I2 : Inv X pins σ (upd H h'.objs.size (.tup (sgV z))) { s with heap := h'.push { cls := .type "tuple", data := .seq acc }, toks := tk } :=
    I1.laid (t' := tk) (fun b o e => Heap.get?_push_of_some _ e) (Nat.le_refl _) (show ObjOk X.prog X.w _ _ _ (.tup (sgV z)) from ⟨by rw [List.length_map, Array.length_toList]; exact hz, acc.toList, vals_text hacc, by rw [Array.toArray_toList]; exact IsTup.new _ _⟩)
  exact ⟨.ref h'.objs.size, _, I2, rfl, q _ (I1.hok.fresh (Nat.le_refl _))⟩
section
variable {K : PySem.W.Frag} {a b c e o i : Expr} {es rest : List Expr} {ta tb tc te to ti : TE} {ta2 tb2 tc2 te2 to2 ti2 : TE2} {pos apos cpos p tpos : Pos} {tl : TA} {tl2 : TA2} {x : Str}
variable {ρ : Env2} {μ : Mu} {Q : DK}
theorem rpA_signs {I : Hp} : ∀ l : List Nat, RpA K I (l.map fun c => D.str ⟨#[c]⟩) (l.map fun c => V.str ⟨#[c]⟩)
  | [] => rfl
  | c :: l => ⟨_, _, rfl, rfl, rpA_signs l⟩
def dListText : DRC := fun xs μ Q => ∃ z : Str, xs = [.str z] ∧ z.length ≤ sizeLine ∧ ∀ p, μ p = none → Q (.adr p) (mup μ p (.lst (sgD z)))
theorem w_listText {z : Str} (h : z.length ≤ sizeLine) (q : ∀ p, μ p = none → Q (.adr p) (mup μ p (.lst (sgD z)))) : dListText [.str z] μ Q := ⟨z, rfl, h, q⟩
abbrev rvListText : List V → Hp → VK → Prop := fun xs H Q => ∃ z : Str, xs = [.str z] ∧ z.length ≤ sizeLine ∧ ∀ l, H l = none → Q (.ref l) (upd H l (.lst (sgV z)))
theorem e_listText [Jx] (hc : X.calm = true) (hg : Gl X "list") (hm : X.mg "list" = none) (ha : PA2 X [e] tl tl2) (hv : bootBuiltins "list" = some (.type "list") := by decide +kernel) (he : starEach [e] X.env = (false, eval e X.env) :: starEach [] X.env := by rfl) : PE2 X (.Call (.Name "list" p) [e] [] pos) (tCB rvListText tl) (dCB dListText tl2) :=
  e_cty (call_listText hc) (fun xs μ Q2 q I H vs hA r Q k => by
    obtain ⟨z, rfl, h, q⟩ := q
    obtain ⟨v, rfl, e⟩ := r.one_inv
    cases (show v = _ from e)
    exact ⟨z, rfl, h, fun l hl => k _ _ _ _ _ (q l (hA.noM hl)) (hA.got hl ⟨_, rfl, rpA_signs _⟩) (Kp.got hl) rfl⟩) hg hm hv ha (he := he)
def dTupText : DRC := fun xs μ Q => ∃ z : Str, xs = [.str z] ∧ z.length ≤ sizeLine ∧ Q (.tup (sgD z)) μ
theorem w_tupText {z : Str} (h : z.length ≤ sizeLine) (q : Q (.tup (sgD z)) μ) : dTupText [.str z] μ Q := ⟨z, rfl, h, q⟩
abbrev rvTupText : List V → Hp → VK → Prop := fun xs H Q => ∃ z : Str, xs = [.str z] ∧ z.length ≤ sizeLine ∧ ∀ l, H l = none → Q (.ref l) (upd H l (.tup (sgV z)))
theorem e_tupText [Jx] (hc : X.calm = true) (hg : Gl X "tuple") (hm : X.mg "tuple" = none) (ha : PA2 X [e] tl tl2) (hv : bootBuiltins "tuple" = some (.type "tuple") := by decide +kernel) (he : starEach [e] X.env = (false, eval e X.env) :: starEach [] X.env := by rfl) : PE2 X (.Call (.Name "tuple" p) [e] [] pos) (tCB rvTupText tl) (dCB dTupText tl2) :=
  e_cty (call_tupText hc) (fun xs μ Q2 q I H vs hA r Q k => by
    obtain ⟨z, rfl, h, q⟩ := q
    obtain ⟨v, rfl, e⟩ := r.one_inv
    cases (show v = _ from e)
    exact ⟨z, rfl, h, fun l hl => k _ _ _ _ _ q (hA.laid hl) (Kp.laid hl (hA.noI hl)) ⟨l, sgV z, rfl, .inl (.inl upd_same), rpA_signs _⟩⟩) hg hm hv ha (he := he)
/-- {} -/
def dDNew : TE2 := fun _ μ Q => ∀ p, μ p = none → Q (.adr p) (mup μ p (.dk []))
theorem w_dnew (q : ∀ p, μ p = none → Q (.adr p) (mup μ p (.dk []))) : dDNew ρ μ Q := q
theorem e_dnew [Jx] : PE2 X (.Dict [] [] pos) tDNewK dDNew := ⟨pe_dnewK, fun ρ μ Q2 q I σ H hA hS Q g p hp => g _ _ _ _ _ (q p (hA.noM hp)) (hA.got hp ⟨[], rfl, .nil⟩) (Kp.got hp) rfl⟩
theorem t_chain [Jx] {op op' : CmpOp} {r r' : R2} {r2 r2' : DR2} (ho : OpR X (compareOp op) r) (ho' : OpR X (compareOp op') r') (hr : RR X.K r r2) (hr' : RR X.K r' r2') (ha : PE2 X a ta ta2) (hb : PE2 X b tb tb2) (hc : PE2 X c tc tc2)
    (hm : lastMarks [op, op'] [b, c] = false := by with_unfolding_all rfl) : PT2 X (.Compare a [op, op'] [b, c] pos) (tTest (tChain r r' ta tb tc)) (dVal (dChain r2 r2' ta2 tb2 tc2)) :=
  ⟨pt_chain ho ho' ha.pe hb.pe hc.pe hm, fun ρ μ T F q I σ H hA hS Q g1 g2 => re_chain hr hr' ha.re hb.re hc.re ρ μ _ q I σ H hA hS _ fun d μ' v I' H' q' a' k' r' => re_val a' r' q' (g1.past k') (g2.past k')⟩
/-- what holds behind a statement, told once for all its ways -/
theorem w_seqK {ts2 tz2 : TS2} {n b c : Env2 → Mu → Prop} {r : DK} (M : Env2 → Mu → Prop) (hM : ∀ ρ μ, M ρ μ → tz2 ⟨n, r, b, c⟩ ρ μ) (h : ∀ T : Env2 → Mu → Prop, (∀ ρ μ, M ρ μ → T ρ μ) → ts2 ⟨Cl T, r, b, c⟩ ρ μ) : dSeqC ts2 tz2 ⟨n, r, b, c⟩ ρ μ := w_seqC (h _ hM)
/-- texts: <= -/
def dLeS : DR2 := fun x y μ Q => ∃ i j, x = .str i ∧ y = .str j ∧ Q (.bl (!decide (j.cps.toList < i.cps.toList))) μ
theorem w_leS {i j : Str} (q : Q (.bl (!decide (j.cps.toList < i.cps.toList))) μ) : dLeS (.str i) (.str j) μ Q := ⟨i, j, rfl, rfl, q⟩
theorem rr_leS [Jx] : RR K (fun x y H Q => ∃ i j, x = .str i ∧ y = .str j ∧ Q (.bl (!decide (j.cps.toList < i.cps.toList))) H) dLeS := fun x y μ Q2 q I H vx vy hA rx ry Q k => by
  obtain ⟨i, j, rfl, rfl, q⟩ := q
  exact ⟨i, j, rx, ry, k _ _ _ _ _ q hA Kp.refl rfl⟩
end
end
end Y

set_option Elab.async false
set_option linter.all false
set_option maxRecDepth 100000
set_option maxHeartbeats 4000000
namespace Y
open PySem PySem.Spec PyProof.Rows L2
/-! where a token is out: replace of written texts -/
structure PEL2 [Jx] (X : Cx) (e : Expr) (te : TE) (t : TE2) : Prop where
  pe : PET X e te
  re : RE X.K te t
section
variable {X : Cx} {K : PySem.W.Frag} {a b c e o i : Expr} {ta tb tc te to ti : TE} {ta2 tb2 tc2 te2 to2 ti2 : TE2} {pos apos cpos p tpos : Pos} {x y z : Str} {j k : Nat} {c0 c1 : Pos}
variable {ρ : Env2} {μ : Mu} {Q : DK}
theorem late [Jx] (h : PE2 X e te te2) : PEL2 X e te te2 := ⟨CwR.PET.of h.pe, h.re⟩
theorem l_fz [Jx] (h : PEL2 X e te te2) : PEL2 X e te (dFz te2) := ⟨h.pe, fun ρ μ Q2 q I σ H hA hS Q g => h.re ρ μ _ q I σ H hA hS _ fun d μ1 v I1 H1 q1 a1 k1 r1 => by
  obtain ⟨p, ds, rfl, hp, q1⟩ := q1
  obtain ⟨hI, ho, h1, vs, rfl, h2⟩ := a1.own p _ hp
  exact g _ _ _ _ _ q1 (a1.frz hp h1) (k1.trans (Kp.frz hp hI)) ⟨p, vs, r1, upd_same, h2.mono (Exx.new hI)⟩⟩
def dReplC (to : TE2) (y z : Str) : TE2 := fun ρ μ Q => to ρ μ fun d μ1 => ∃ x, d = .str x ∧ x.length + (x.length + 1) * z.length ≤ 16777216 ∧ Q (.str (Txt.replace x y z)) μ1
def dReplK (y z : Str) (Q : DK) : DK := fun d μ1 => ∃ x, d = .str x ∧ x.length + (x.length + 1) * z.length ≤ 16777216 ∧ Q (.str (Txt.replace x y z)) μ1
theorem w_repl (h : to2 ρ μ (dReplK y z Q)) : dReplC to2 y z ρ μ Q := h
theorem w_replK (h : x.length + (x.length + 1) * z.length ≤ 16777216) (q : Q (.str (Txt.replace x y z)) μ) : dReplK y z Q (.str x) μ := ⟨x, rfl, h, q⟩
theorem l_replace [Jx] (ho : PE2 X o to to2) (hyz : (y == z) = false := by decide +kernel)
    (hst : starEach [.Constant (.str y) j c0, .Constant (.str z) k c1] X.env = [(false, eval (.Constant (.str y) j c0) X.env), (false, eval (.Constant (.str z) k c1) X.env)] := by rfl)
    (hbase : attributeBase o "replace" X.env (eval o X.env) = eval o X.env := by rfl) (hline : (apos.endLine == pos.line) = true := by rfl) :
    PEL2 X (.Call (.Attribute o "replace" apos) [.Constant (.str y) j c0, .Constant (.str z) k c1] [] pos) (CwR.tReplC to y z) (dReplC to2 y z) := ⟨CwR.pet_replC ho.pe hyz hst hbase hline, fun ρ μ Q2 q I σ H hA hS Q g => ho.re ρ μ _ q I σ H hA hS _ fun d μ1 v I1 H1 q1 a1 k1 r1 => by
  obtain ⟨x, rfl, h, q⟩ := q1
  exact ⟨x, r1, h, g _ _ _ _ _ q a1 k1 rfl⟩⟩
theorem pet_m1 {id : String} {name : Str} {r : V → List V → Hp → VK → Prop} (slot : Slot "str" name id) (ty : typeOf (.builtin id) = pure (.type "method_descriptor")) (rule : MtR X id r) (ho : PET X o to) (he : PE X e te)
    (hs : starEach [e] X.env = [(false, eval e X.env)] := by rfl) (hbase : attributeBase o name X.env (eval o X.env) = eval o X.env := by rfl) (hline : (apos.endLine == pos.line) = true := by rfl) :
    PET X (.Call (.Attribute o name apos) [e] [] pos) (tM1 r to te) := by
  intro pins s σ H Q h0 I h
  refine PySem.Call_method1 hbase hs hline (thn (ho pins s σ H _ h0 I h) fun v s1 ⟨x, H1, I1, r1, q1⟩ => ?_)
  obtain ⟨⟨a, rfl⟩, q1⟩ := q1
  obtain ⟨t, rfl⟩ := _root_.id r1
  refine ⟨"str", _, PySem.F.plainAttrs_str, slot, ty, typeIs_str _ _ _, (fun _ e => nomatch e), Calls.callWith_builtin rfl (Calls.evalArgs_plain (Calls.spliced_cons ?_))⟩
  exact thn (he.run pins s1 σ H1 _ I1 q1) fun u s2 ⟨y, H2, I2, r2, q2⟩ => Calls.spliced_nil (rule pins s2 σ H2 _ [y] _ [u] Q I2 r1 (.cons r2 .nil) q2)
theorem pe_m1L {id : String} {name : Str} {r : V → List V → Hp → VK → Prop} (slot : Slot "str" name id) (ty : typeOf (.builtin id) = pure (.type "method_descriptor")) (rule : MtR X id r) (he : PET X e te)
    (hs : starEach [e] X.env = [(false, eval e X.env)] := by rfl) (hbase : attributeBase (.Constant (.str z) j c0) name X.env (eval (.Constant (.str z) j c0) X.env) = eval (.Constant (.str z) j c0) X.env := by rfl) (hline : (apos.endLine == pos.line) = true := by rfl) :
    PE X (.Call (.Attribute (.Constant (.str z) j c0) name apos) [e] [] pos) (tM1 r (tC (.str z)) te) := by
  refine ⟨fun pins s σ H Q I h => ?_⟩
  refine PySem.Call_method1 hbase hs hline (Calls.Constant_str ?_)
  obtain ⟨_, h⟩ := h
  refine ⟨"str", _, PySem.F.plainAttrs_str, slot, ty, typeIs_str _ _ _, (fun _ e => nomatch e), Calls.callWith_builtin rfl (Calls.evalArgs_plain (Calls.spliced_cons ?_))⟩
  exact thn (he pins _ σ H _ (by show 1 ≤ s.toks + 1; omega) (I.tok _) h) fun u s2 ⟨y, H2, I2, r2, q2⟩ => Calls.spliced_nil (rule pins s2 σ H2 (.str z) [y] _ [u] Q I2 ⟨_, rfl⟩ (.cons r2 .nil) q2)
theorem rr_split [Jx] : ∀ (x y : D) (μ : Mu) (Q2 : DK), dSplit x y μ Q2 → ∀ (I H : Hp) (v u : V), At K μ I H → Rp K I x v → Rp K I y u → ∀ Q : VK, Go K I μ H Q2 Q → rvSplit v [u] H Q := fun x y μ Q2 q I H v u hA rx ry Q k => by
    obtain ⟨a, b, rfl, rfl, h1, h2, q⟩ := q
    refine ⟨a, b, rx, by rw [show u = _ from ry], h1, h2, fun p hp => ?_⟩
    exact k _ _ _ _ _ (q p (hA.noM hp)) (hA.got hp ⟨_, rfl, RpA.strs _⟩) (Kp.got hp) rfl
theorem rr_join [Jx] : ∀ (x y : D) (μ : Mu) (Q2 : DK), dJoin x y μ Q2 → ∀ (I H : Hp) (v u : V), At K μ I H → Rp K I x v → Rp K I y u → ∀ Q : VK, Go K I μ H Q2 Q → rvJoin K v [u] H Q := fun x y μ Q2 q I H v u hA rx ry Q k => by
    obtain ⟨a, ds, ys, rfl, h1, h2, z, q⟩ := q
    obtain ⟨p, vs, rfl, h3, h4⟩ := asS_at hA ry h1
    rw [strsOf_ok h2] at h4
    rw [h4.strs_inv] at h3
    exact ⟨a, p, ys, rx, rfl, h3, z, k _ _ _ _ _ q hA Kp.refl rfl⟩
theorem l_split [Jx] (ho : PEL2 X o to to2) (he : PE2 X e te te2) (hs : starEach [e] X.env = [(false, eval e X.env)] := by rfl) (hbase : attributeBase o "split" X.env (eval o X.env) = eval o X.env := by rfl) (hline : (apos.endLine == pos.line) = true := by rfl) :
    PEL2 X (.Call (.Attribute o "split" apos) [e] [] pos) (tM1 rvSplit to te) (dM1 dSplit to2 te2) := ⟨pet_m1 PySem.F.slot_str_split PySem.F.type_str_split mt_split ho.pe he.pe hs hbase hline, re_m1 rr_split ho.re he.re⟩
theorem e_joinL [Jx] (he : PEL2 X e te te2) (hs : starEach [e] X.env = [(false, eval e X.env)] := by rfl) (hbase : attributeBase (.Constant (.str z) j c0) "join" X.env (eval (.Constant (.str z) j c0) X.env) = eval (.Constant (.str z) j c0) X.env := by rfl) (hline : (apos.endLine == pos.line) = true := by rfl) :
    PE2 X (.Call (.Attribute (.Constant (.str z) j c0) "join" apos) [e] [] pos) (tM1 (rvJoin X.K) (tC (.str z)) te) (dM1 dJoin (dC (.str z)) te2) := ⟨pe_m1L PySem.F.slot_str_join PySem.F.type_str_join mt_join he.pe hs hbase hline, re_m1 rr_join (e_str (X := X) (x := z) (j := j) (pos := c0)).re he.re⟩
end
end Y

set_option Elab.async false
set_option linter.all false
set_option maxRecDepth 100000
set_option maxHeartbeats 4000000
namespace Y
open PySem PySem.Spec PyProof.Rows L2
/-! own classes: fields, methods, new instances; a def that calls itself -/
def setF (f : Str) (v : D) : List (Str × D) → List (Str × D)
  | [] => [(f, v)]
  | (g, x) :: r => if g = f then (g, v) :: r else (g, x) :: setF f v r
/-- a class of the program, as it stands -/
structure Kl (K : PySem.W.Frag) (mg : Str → Option Value) (x : Str) (C : Addr) : Prop where
  cl : Cls K C
  mg : mg x = some (.ref C)
  makes : PySem.W.makesIn K C = true
  kp : PySem.W.keepIn K (.ref C) = true
/-- a method as it stands behind the top -/
structure Tm (K : PySem.W.Frag) (C : Addr) (m q : Str) (st : Stmt) (ps : List Str) : Prop where
  of : ∃ f fd, Fun K m q st f fd ∧ Meth K C m f ∧ Binds K fd ps []
/-- a method that keeps a promise, and raises nothing -/
structure Dm (P : Program) (w : World) (K : PySem.W.Frag) (mg : Str → Option Value) (base : Heap) (C : Addr) (m : Str) (k : Nat) (ps : List Str) (sp : Sp2) : Prop where
  of : ∃ f fd, FnOk P w K mg base CX0 k f fd ps (toSp K sp) ∧ Meth K C m f ∧ Binds K fd ps []
section
variable {K : PySem.W.Frag} {I I' : Hp}
theorem RpF.put (f : Str) {d : D} {v : V} (r : Rp K I d v) : ∀ {fs : List (Str × D)} {hfs : List (Str × V)}, RpF K I fs hfs → RpF K I (setF f d fs) (putF f v hfs)
  | _, _, .nil => .cons ⟨rfl, r⟩ .nil
  | (g, x) :: fs, (g', y) :: hfs, .cons h t => by
    obtain ⟨h1, h2⟩ := h
    have h1 : g = g' := h1
    subst h1
    unfold setF putF
    by_cases e : g = f
    · rw [if_pos e, if_pos e]; exact .cons ⟨rfl, r⟩ t
    · rw [if_neg e, if_neg e]; exact .cons ⟨rfl, h2⟩ (RpF.put f r t)
theorem RpF.look (f : Str) : ∀ {fs : List (Str × D)} {hfs : List (Str × V)} {d : D}, RpF K I fs hfs → fs.lookup f = some d → ∃ v, hfs.lookup f = some v ∧ Rp K I d v
  | _, _, _, .nil, e => by cases e
  | (g, x) :: fs, (g', y) :: hfs, d, .cons h t, e => by
    obtain ⟨h1, h2⟩ := h
    have h1 : g = g' := h1
    subst h1
    rw [List.lookup_cons] at e ⊢
    cases q : f == g with
    | true => rw [q] at e; cases e; exact ⟨y, rfl, h2⟩
    | false => rw [q] at e; exact RpF.look f t e
theorem RpF.no (f : Str) : ∀ {fs : List (Str × D)} {hfs : List (Str × V)}, RpF K I fs hfs → fs.lookup f = none → hfs.lookup f = none
  | _, _, .nil, e => rfl
  | (g, x) :: fs, (g', y) :: hfs, .cons h t, e => by
    obtain ⟨h1, h2⟩ := h
    have h1 : g = g' := h1
    subst h1
    rw [List.lookup_cons] at e ⊢
    cases q : f == g with
    | true => rw [q] at e; cases e
    | false => rw [q] at e; exact RpF.no f t e
theorem RpF.len : ∀ {fs : List (Str × D)} {hfs : List (Str × V)}, RpF K I fs hfs → hfs.length = fs.length
  | _, _, .nil => rfl
  | _ :: _, _ :: _, .cons _ t => by rw [List.length_cons, List.length_cons, RpF.len t]
theorem RpF.zip : ∀ {ns : List Str} {ds : List D} {vs : List V}, ns.length = ds.length → RpA K I ds vs → RpF K I (ns.zip ds) (ns.zip vs)
  | [], _, _, _, _ => .nil
  | n :: ns, [], _, h, _ => by cases h
  | n :: ns, d :: ds, _, h, r => by
    obtain ⟨v, vs, rfl, r1, r2⟩ := r
    exact .cons ⟨rfl, r1⟩ (RpF.zip (Nat.succ.inj h) r2)
theorem RpF.unzip : ∀ {fs : List (Str × D)} {hfs : List (Str × V)}, RpF K I fs hfs → hfs = (fs.map (·.1)).zip (hfs.map (·.2)) ∧ RpA K I (fs.map (·.2)) (hfs.map (·.2))
  | _, _, .nil => ⟨rfl, rfl⟩
  | (g, x) :: fs, (g', y) :: hfs, .cons h t => by
    obtain ⟨h1, h2⟩ := h
    have h1 : g = g' := h1
    subst h1
    obtain ⟨e1, e2⟩ := RpF.unzip t
    exact ⟨by rw [List.map_cons, List.map_cons, List.zip_cons_cons, ← e1], _, _, rfl, h2, e2⟩
end
/-- the fields of an instance of C: owned, or one that stays -/
def fldsM (C : Addr) : Option MO → Option (List (Str × D))
  | some (.ins C' fs) => if C' = C then some fs else none
  | _ => none
def fldsOf (C : Addr) (μ : Mu) : D → Option (List (Str × D))
  | .adr p => fldsM C (μ p)
  | .obj C' ns ds => if C' = C ∧ ns.length = ds.length then some (ns.zip ds) else none
  | _ => none
theorem fldsM_inv {C : Addr} {m : Option MO} {fs : List (Str × D)} (h : fldsM C m = some fs) : m = some (.ins C fs) := by
  cases m with
  | none => cases h
  | some m =>
    cases m with
    | ins C' fs' =>
      have h' : (if C' = C then some fs' else none) = some fs := h
      by_cases e : C' = C
      · rw [if_pos e] at h'; cases h'; subst e; rfl
      · rw [if_neg e] at h'; cases h'
    | lst _ => cases h
    | dk _ => cases h
theorem fldsOf_adr {C p : Addr} {μ : Mu} {fs : List (Str × D)} (h : μ p = some (.ins C fs)) : fldsOf C μ (.adr p) = some fs := by
  show fldsM C (μ p) = some fs
  rw [h]; exact if_pos rfl
theorem fldsOf_obj {C : Addr} {μ : Mu} {ns : List Str} {ds : List D} (h : ns.length = ds.length) : fldsOf C μ (.obj C ns ds) = some (ns.zip ds) := if_pos ⟨rfl, h⟩
theorem fldsOf_at [Jx] {K : PySem.W.Frag} {C : Addr} {μ : Mu} {I H : Hp} {d : D} {v : V} {fs : List (Str × D)} (a : At K μ I H) (r : Rp K I d v) (h : fldsOf C μ d = some fs) : ∃ p dx hfs, v = .ref p ∧ H p = some (.ins C dx hfs) ∧ RpF K I fs hfs := by
  cases d with
  | adr p =>
    obtain ⟨_, o, ho, dx, hfs, rfl, hr⟩ := a.own p _ (fldsM_inv h)
    exact ⟨p, dx, hfs, r, ho, hr⟩
  | obj C' ns ds =>
    have h' : (if C' = C ∧ ns.length = ds.length then some (ns.zip ds) else none) = some fs := h
    by_cases e : C' = C ∧ ns.length = ds.length
    · rw [if_pos e] at h'
      cases h'
      obtain ⟨e1, e2⟩ := e
      subst e1
      obtain ⟨p, dx, vs, rfl, hp, _, hr⟩ := r
      exact ⟨p, dx, _, rfl, a.sub p _ hp, RpF.zip e2 hr⟩
    · rw [if_neg e] at h'; cases h'
  | non => cases h
  | bl _ => cases h
  | int _ => cases h
  | str _ => cases h
  | ty _ => cases h
  | tup _ => cases h
  | lst _ => cases h
  | scr _ => cases h
section
variable {X : Cx} {K : PySem.W.Frag} {a b c e o : Expr} {es rest : List Expr} {ta tb tc te to : TE} {ta2 tb2 tc2 te2 to2 : TE2} {pos apos cpos p tpos : Pos} {tl : TA} {tl2 : TA2} {x f m : Str} {C : Addr}
variable {ρ : Env2} {μ : Mu} {Q : DK} {k j : Nat} {ps : List Str} {sp : Sp2}
/-! ### fields -/
def dFld (C : Addr) (f : Str) (ta : TE2) : TE2 := fun ρ μ Q => ta ρ μ fun d μ1 => ∃ fs v, fldsOf C μ1 d = some fs ∧ fs.lookup f = some v ∧ Q v μ1
def dFldK (C : Addr) (f : Str) (Q : DK) : DK := fun d μ1 => ∃ fs v, fldsOf C μ1 d = some fs ∧ fs.lookup f = some v ∧ Q v μ1
theorem w_fld (h : ta2 ρ μ (dFldK C f Q)) : dFld C f ta2 ρ μ Q := h
theorem w_fldK {d v : D} {fs : List (Str × D)} (h : fldsOf C μ d = some fs) (h2 : fs.lookup f = some v) (q : Q v μ) : dFldK C f Q d μ := ⟨fs, v, h, h2, q⟩
theorem e_fld [Jx] (c : Cls X.K C) (n : NoAttr X.K C f) (he : PE2 X e ta ta2) (hb : attributeBase e f X.env (eval e X.env) = eval e X.env := by rfl) : PE2 X (.Attribute e f pos) (tFld X.K ta f) (dFld C f ta2) :=
  ⟨pe_fld he.pe hb, fun ρ μ Q2 q I σ H hA hS Q g => he.re ρ μ _ q I σ H hA hS _ fun d μ1 v I1 H1 q1 a1 k1 r1 => by
    obtain ⟨fs, z, h1, h2, q1⟩ := q1
    obtain ⟨p, dx, hfs, rfl, hp, hr⟩ := fldsOf_at a1 r1 h1
    obtain ⟨y, hy, ry⟩ := hr.look f h2
    exact ⟨p, C, dx, hfs, y, rfl, hp, c, n, hy, g _ _ _ _ _ q1 a1 k1 ry⟩⟩
/-- e.f = value, of an owned instance -/
def dPutF (C : Addr) (f : Str) (ta tv : TE2) : TS2 := fun D ρ μ => tv ρ μ fun v μ1 => ta ρ μ1 fun d μ2 => ∃ p fs, d = .adr p ∧ μ2 p = some (.ins C fs) ∧ fs.length < 1000 ∧ D.nx ρ (mup μ2 p (.ins C (setF f v fs)))
def dPutFK (C : Addr) (f : Str) (v : D) (N : Mu → Prop) : DK := fun d μ2 => ∃ p fs, d = .adr p ∧ μ2 p = some (.ins C fs) ∧ fs.length < 1000 ∧ N (mup μ2 p (.ins C (setF f v fs)))
theorem w_putF {n b c : Env2 → Mu → Prop} {r : DK} (h : tb2 ρ μ fun v μ1 => ta2 ρ μ1 (dPutFK C f v (n ρ))) : dPutF C f ta2 tb2 ⟨n, r, b, c⟩ ρ μ := h
theorem w_putFK {p : Addr} {v : D} {fs fs' : List (Str × D)} {N : Mu → Prop} (h : μ p = some (.ins C fs)) (h2 : setF f v fs = fs') (l : fs.length < 1000) (q : N (mup μ p (.ins C fs'))) : dPutFK C f v N (.adr p) μ := ⟨p, fs, rfl, h, l, by rw [h2]; exact q⟩
theorem setF_nil {v : D} : setF f v [] = [(f, v)] := rfl
theorem setF_hit {v x : D} {r : List (Str × D)} : setF f v ((f, x) :: r) = (f, v) :: r := if_pos rfl
theorem setF_miss {g : Str} {v x : D} {r r' : List (Str × D)} (h : (g == f) = false) (h2 : setF f v r = r') : setF f v ((g, x) :: r) = (g, x) :: r' := by
  rw [← h2]; exact if_neg fun z => by rw [z, beq_self_eq_true] at h; cases h
theorem lk_hit {v : D} {r : List (Str × D)} : List.lookup f ((f, v) :: r) = some v := by simp [List.lookup]
theorem lk_miss {g : Str} {v x : D} {r : List (Str × D)} (h : (f == g) = false) (h2 : List.lookup f r = some v) : List.lookup f ((g, x) :: r) = some v := by
  rw [List.lookup_cons, h]; exact h2
theorem lk_nil : List.lookup f ([] : List (Str × D)) = none := rfl
theorem lk_no {g : Str} {x : D} {r : List (Str × D)} (h : (f == g) = false) (h2 : List.lookup f r = none) : List.lookup f ((g, x) :: r) = none := by
  rw [List.lookup_cons, h]; exact h2
theorem s_putF [Jx] {value : Expr} {tv : TE} {tv2 : TE2} {pos' : Pos} (c : Cls X.K C) (n : NoAttr X.K C f) (ho : PE2 X o ta ta2) (hv : PE2 X value tv tv2) (hs : swapsWith value (some (.Attribute o f pos')) pos.line X.env = pure false := by rfl) :
    PS2 X (.Assign [.Attribute o f pos'] value pos) (sFld X.K ta tv f) (dPutF C f ta2 tv2) :=
  ⟨ps_fld ho.pe hv.pe hs, fun D2 ρ μ q I σ H hA hS D g => hv.re ρ μ _ q I σ H hA hS _ fun v μ1 u I1 H1 q1 a1 k1 r1 => ho.re ρ μ1 _ q1 I1 σ H1 a1 (hS.mono k1.ex) _ fun d μ2 z I2 H2 q2 a2 k2 r2 => by
    obtain ⟨p, fs, rfl, hp, l, q2⟩ := q2
    cases (show z = _ from r2)
    obtain ⟨_, ob, ho', dx, hfs, rfl, hr⟩ := a2.own p _ hp
    exact ⟨p, C, dx, hfs, rfl, ho', c, n, by rw [hr.len]; exact l, g.nx _ _ _ _ _ q2 (a2.put hp ⟨dx, _, rfl, hr.put f (r1.mono k2.ex)⟩) (hS.mono (k1.trans k2).ex) ((k1.trans k2).trans (Kp.put hp))⟩⟩
/-! ### methods -/
def dMeth (C : Addr) (m : Str) (sp : Sp2) (to : TE2) (t : TA2) : TE2 := fun ρ μ Q => to ρ μ fun d μ1 => (∃ fs, fldsOf C μ1 d = some fs ∧ fs.lookup m = none) ∧ t ρ μ1 fun ds μ2 => sp (d :: ds) μ2 Q NoX
def dMethK (C : Addr) (m : Str) (N : Prop) (d : D) (μ1 : Mu) : Prop := (∃ fs, fldsOf C μ1 d = some fs ∧ fs.lookup m = none) ∧ N
theorem w_meth (h : to2 ρ μ fun d μ1 => dMethK C m (tl2 ρ μ1 fun ds μ2 => sp (d :: ds) μ2 Q NoX) d μ1) : dMeth C m sp to2 tl2 ρ μ Q := h
theorem w_methK {N : Prop} {d : D} {fs : List (Str × D)} (h : fldsOf C μ d = some fs) (h2 : fs.lookup m = none) (q : N) : dMethK C m N d μ := ⟨⟨fs, h, h2⟩, q⟩
theorem re_meth [Jx] {E : XK} (ho : RE K to to2) (ht : RA K tl tl2) : RE K (tMeth C m (toSp K sp) [] E to tl) (dMeth C m sp to2 tl2) := fun ρ μ Q2 q I σ H hA hS Q g => ho ρ μ _ q I σ H hA hS _ fun d μ1 v I1 H1 q1 a1 k1 r1 => by
  obtain ⟨⟨fs, h1, h2⟩, q1⟩ := q1
  obtain ⟨p, dx, hfs, rfl, hp, hr⟩ := fldsOf_at a1 r1 h1
  refine ⟨p, dx, hfs, rfl, hp, hr.no m h2, ht ρ μ1 _ q1 I1 σ H1 a1 (hS.mono k1.ex) _ fun ds μ2 vs I2 H2 q2 a2 k2 r2 => ?_⟩
  rw [List.append_nil]
  exact ⟨d :: ds, μ2, I2, Q2, NoX, a2.toAt0, ⟨_, _, rfl, r1.mono k2.ex, r2⟩, q2, (g.past (k1.trans k2)).low a2, goX_no⟩
theorem e_meth [Jx] {pl : Sem Bool} (F : Dm X.prog X.w X.K X.mg X.base C m j ps sp) (hr : Room k X.A) (c : Cls X.K C) (ho : PE2 X o to to2) (ha : PA2 X (e :: es) tl tl2) (hjk : j ≤ k := by first | decide | omega)
    (hst : starEach (e :: es) X.env = (false, eval e X.env) :: starEach es X.env := by rfl) (hpl : (backTo pos (starEach es X.env)).any (·.1) = false := by rfl)
    (ht : eval (.Call (.Attribute o m apos) (e :: es) [] pos) X.env = (do
      let ov ← eval o X.env
      standAt apos.atName
      let (f, first) ← holding [ov] (getMethod ov m pl)
      callWith pos f first (backTo pos (starEach (e :: es) X.env)) (backToKw pos (keywordEach [] X.env))) := by rfl) :
    PE2 X (.Call (.Attribute o m apos) (e :: es) [] pos) (tMeth C m (toSp X.K sp) [] E0 to tl) (dMeth C m sp to2 tl2) := by
  obtain ⟨f, fd, F, hm, hb⟩ := F.of
  exact ⟨pe_meth ho.pe c hm F (hr.mono hjk) hb .nil pass0 ha.pa hst hpl ht, re_meth ho.re ha.re⟩
theorem e_meth0 [Jx] {pl : Sem Bool} (F : Dm X.prog X.w X.K X.mg X.base C m j ps sp) (hr : Room k X.A) (c : Cls X.K C) (ho : PE2 X o to to2) (hjk : j ≤ k := by first | decide | omega)
    (ht : eval (.Call (.Attribute o m apos) [] [] pos) X.env = (do
      let ov ← eval o X.env
      standAt apos.atName
      let (f, first) ← holding [ov] (getMethod ov m pl)
      callWith pos f first (backTo pos (starEach [] X.env)) (backToKw pos (keywordEach [] X.env))) := by rfl) :
    PE2 X (.Call (.Attribute o m apos) [] [] pos) (tMeth C m (toSp X.K sp) [] E0 to tNil) (dMeth C m sp to2 dNil) := by
  obtain ⟨f, fd, F, hm, hb⟩ := F.of
  exact ⟨pe_meth0 ho.pe c hm F (hr.mono hjk) hb .nil pass0 ht, re_meth ho.re (a_nil (X := X)).re⟩
/-! ### new instances -/
def dMake (C : Addr) (sp : Sp2) (t : TA2) : TE2 := fun ρ μ Q => t ρ μ fun ds μ1 => ∀ p, μ1 p = none → sp (.adr p :: ds) (mup μ1 p (.ins C [])) (fun d μ2 => d = .non ∧ Q (.adr p) μ2) NoX
def dMakeK (C : Addr) (sp : Sp2) (Q : DK) : List D → Mu → Prop := fun ds μ1 => ∀ p, μ1 p = none → sp (.adr p :: ds) (mup μ1 p (.ins C [])) (fun d μ2 => d = .non ∧ Q (.adr p) μ2) NoX
theorem w_make (h : tl2 ρ μ (dMakeK C sp Q)) : dMake C sp tl2 ρ μ Q := h
theorem re_make [Jx] {E : XK} (ht : RA K tl tl2) : RE K (tMake C (toSp K sp) [] E tl) (dMake C sp tl2) := fun ρ μ Q2 q I σ H hA hS Q g => ht ρ μ _ q I σ H hA hS _ fun ds μ1 vs I1 H1 q1 a1 k1 r1 => by
  intro x dx hx hdx hne
  have hI : I1 x = none := a1.noI hx
  have hId : I1 dx = none := a1.noI hdx
  have hM : μ1 x = none := a1.noM hx
  have hMd : μ1 dx = none := a1.noM hdx
  have hxd : x ≠ dx := fun z => hne z.symm
  have a2 : At0 K μ1 I1 (upd H1 dx (.own x)) := ⟨fun b u e => by rw [upd_ne (ne_of_none e hId)]; exact a1.sub b u e, fun b n e => by
    obtain ⟨h1, u, h2, h3⟩ := a1.own b n e
    exact ⟨h1, u, by rw [upd_ne (ne_of_none h2 hdx)]; exact h2, h3⟩⟩
  have k2 : Kp I1 μ1 H1 I1 μ1 (upd H1 dx (.own x)) := ⟨Exx.refl _, fun b u e h1 h2 => ⟨by rw [upd_ne (ne_of_none e hdx)]; exact e, h1, h2⟩⟩
  have hx2 : upd H1 dx (.own x) x = none := by rw [upd_ne hxd]; exact hx
  have a3 := a2.got (m := .ins C []) hx2 ⟨dx, [], rfl, .nil⟩
  have k3 : Kp I1 μ1 (upd H1 dx (.own x)) I1 (mup μ1 x (.ins C [])) (upd (upd H1 dx (.own x)) x (.ins C dx [])) := Kp.got hx2
  rw [List.append_nil]
  refine ⟨.adr x :: ds, _, I1, fun d μ2 => d = .non ∧ Q2 (.adr x) μ2, NoX, a3, ⟨_, _, rfl, rfl, r1⟩, q1 x hM, ?_, goX_no⟩
  rintro d μ' v I' H' ⟨rfl, q⟩ a k r
  have kz := k1.trans ((k2.trans k3).trans k)
  exact ⟨r, g _ _ _ _ _ q (a.up hA kz) kz rfl⟩
theorem mk_of (KC : Kl X.K X.mg x C) (F : Dm X.prog X.w X.K X.mg X.base C "__init__" j ps sp) : ∃ f fd, FnOk X.prog X.w X.K X.mg X.base CX0 j f fd ps (toSp X.K sp) ∧ Mk X.K C f ∧ Binds X.K fd ps [] := by
  obtain ⟨f, fd, F, hm, hb⟩ := F.of
  exact ⟨f, fd, F, ⟨KC.makes, hm.at_, hm.fn, KC.kp⟩, hb⟩
theorem e_make [Jx] (KC : Kl X.K X.mg x C) (F : Dm X.prog X.w X.K X.mg X.base C "__init__" j ps sp) (hr : Room (k + 1) X.A) (hg : Gl X x) (ha : PA2 X (e :: es) tl tl2) (hjk : j ≤ k := by first | decide | omega) (hdb : (x == ("__debug__" : Str)) = false := by decide)
    (he : starEach (e :: es) X.env = (false, eval e X.env) :: starEach es X.env := by rfl) (hpl : (backTo pos (starEach es X.env)).any (·.1) = false := by rfl) : PE2 X (.Call (.Name x p) (e :: es) [] pos) (tMake C (toSp X.K sp) [] E0 tl) (dMake C sp tl2) := by
  obtain ⟨f, fd, F, hm, hb⟩ := mk_of KC F
  exact ⟨pe_make hm F (hr.mono (Nat.succ_le_succ hjk)) hg KC.mg hb .nil pass0 ha.pa hdb he hpl, re_make ha.re⟩
theorem e_make0 [Jx] (KC : Kl X.K X.mg x C) (F : Dm X.prog X.w X.K X.mg X.base C "__init__" j ps sp) (hr : Room (k + 1) X.A) (hg : Gl X x) (hjk : j ≤ k := by first | decide | omega) (hdb : (x == ("__debug__" : Str)) = false := by decide) :
    PE2 X (.Call (.Name x p) [] [] pos) (tMake C (toSp X.K sp) [] E0 tNil) (dMake C sp dNil) := by
  obtain ⟨f, fd, F, hm, hb⟩ := mk_of KC F
  exact ⟨pe_make0 hm F (hr.mono (Nat.succ_le_succ hjk)) hg KC.mg hb .nil pass0 hdb, re_make (a_nil (X := X)).re⟩
/-- an owned instance stays from now on -/
def dFzO (C : Addr) (t : TE2) : TE2 := fun ρ μ Q => t ρ μ fun d μ1 => ∃ p fs, d = .adr p ∧ μ1 p = some (.ins C fs) ∧ Q (.obj C (fs.map (·.1)) (fs.map (·.2))) (mdel μ1 p)
def dFzOK (C : Addr) (Q : DK) : DK := fun d μ1 => ∃ p fs, d = .adr p ∧ μ1 p = some (.ins C fs) ∧ Q (.obj C (fs.map (·.1)) (fs.map (·.2))) (mdel μ1 p)
theorem w_fzO (h : te2 ρ μ (dFzOK C Q)) : dFzO C te2 ρ μ Q := h
theorem w_fzOK {p : Addr} {fs : List (Str × D)} (h : μ p = some (.ins C fs)) (q : Q (.obj C (fs.map (·.1)) (fs.map (·.2))) (mdel μ p)) : dFzOK C Q (.adr p) μ := ⟨p, fs, rfl, h, q⟩
theorem e_fzO [Jx] (h : PE2 X e te te2) : PE2 X e te (dFzO C te2) :=
  ⟨h.pe, fun ρ μ Q2 q I σ H hA hS Q g => h.re ρ μ _ q I σ H hA hS _ fun d μ1 v I1 H1 q1 a1 k1 r1 => by
    obtain ⟨p, fs, rfl, hp, q1⟩ := q1
    obtain ⟨hI, ob, ho, dx, hfs, rfl, hr⟩ := a1.own p _ hp
    obtain ⟨e1, e2⟩ := hr.unzip
    refine g _ _ _ _ _ q1 (a1.frz hp ho) (k1.trans (Kp.frz hp hI)) ⟨p, dx, hfs.map (·.2), r1, ?_, ?_, e2.mono (Exx.new hI)⟩
    · rw [upd_same, ← e1]
    · rw [List.length_map, List.length_map]⟩
/-! ### a call whose level is a letter; a def that is not reached -/
theorem e_callR [Jx] (F : Df X.prog X.w X.K X.mg X.base x j ps sp) (hr : Room k X.A) (hg : Gl X x) (hjk : j ≤ k) (ha : PA2 X (e :: es) tl tl2) (hdb : (x == ("__debug__" : Str)) = false := by decide) (he : starEach (e :: es) X.env = (false, eval e X.env) :: starEach es X.env := by rfl) (hpl : (backTo pos (starEach es X.env)).any (·.1) = false := by rfl) :
    PE2 X (.Call (.Name x p) (e :: es) [] pos) (tCall (toSp X.K sp) [] E0 tl) (dCall sp tl2) := e_call F hr hg ha hjk hdb he hpl
theorem Tx.never {P : Program} {w : World} {mg : Str → Option Value} {base : Heap} {st : Stmt} {N : List Str} (T : Tx K mg x st ps) (S : FnScope N ps (defScope st)) : Df P w K mg base x 1 ps (fun _ _ _ _ => False) :=
  T.ok S (fun _ _ _ _ h => h.elim) fun f cdv A outer s H E hr => ⟨fun _ _ _ => False, fun _ _ _ => False, ⟨⟨fun pins s σ H D I h => h.elim⟩, fun D2 ρ μ q => q.elim⟩, fun _ _ _ _ h => h.elim⟩
theorem Tm.ok {P : Program} {w : World} {mg : Str → Option Value} {base : Heap} {q : Str} {st : Stmt} {N : List Str} (T : Tm K C m q st ps) (S : FnScope N ps (defScope st)) (len : ∀ ds μ Q E, sp ds μ Q E → ds.length = ps.length)
    (hb : ∀ [Jx] (f : Addr) (cdv : Value) (A : Around) (outer : List Env) (s : Shared) (H : Hp) (E : XK), Room k (A.deeper (envOfC q (defScope st) s.heap.objs.size f cdv)) →
      ∃ ts t, PSs2 (cxOf CX0 P w K mg base N q (defScope st) f cdv A outer s H E).nox (defBody st) ts t ∧ ∀ ds μ Q E2, sp ds μ Q E2 → t { nx := fun _ μ' => RtC Q .non μ', rt := RtC Q } (start2 N ds) μ) : Dm P w K mg base C m (k + 1) ps sp := by
  obtain ⟨f, fd, F, hm, hbd⟩ := T.of
  refine ⟨f, fd, F.ok S (fun vs H Q E h => ?_) (fun cdv A outer s H vs Q E hr h => ?_), hm, hbd⟩
  · obtain ⟨ds, μ, I, Q2, E2, _, r, hsp, _⟩ := h
    rw [r.length]; exact len _ _ _ _ hsp
  · obtain ⟨ds, μ, I, Q2, E2, hA, r, hsp, g, gx⟩ := h
    letI := Jx.triv
    obtain ⟨ts, t, ht, hq⟩ := hb f cdv A outer s H E hr
    refine ⟨ts, ht.ps, ht.re _ _ μ (hq ds μ Q2 E2 hsp) I _ H hA.triv (slots_start r) _ (@GoS.mk Jx.triv _ _ _ _ _ _ ?_ ?_ (fun _ _ _ _ _ h => h.elim) (fun _ _ _ _ _ h => h.elim))⟩
    · rintro ρ' μ' σ' I' H' ⟨d', μ2, sh, q⟩ a' s' k'
      obtain ⟨I2, a2, k2, r2⟩ := @sh Jx.triv K I' H' .non a' rfl
      exact g d' μ2 _ I2 H' q (@At.toAt0 Jx.triv _ _ _ _ a2) (k'.trans k2) r2
    · rintro d μ' v I' H' ⟨d', μ2, sh, q⟩ a' k' r'
      obtain ⟨I2, a2, k2, r2⟩ := @sh Jx.triv K I' H' v a' r'
      exact g d' μ2 _ I2 H' q (@At.toAt0 Jx.triv _ _ _ _ a2) (k'.trans k2) r2
theorem Tm.never {P : Program} {w : World} {mg : Str → Option Value} {base : Heap} {q : Str} {st : Stmt} {N : List Str} (T : Tm K C m q st ps) (S : FnScope N ps (defScope st)) : Dm P w K mg base C m 1 ps (fun _ _ _ _ => False) :=
  T.ok S (fun _ _ _ _ h => h.elim) fun f cdv A outer s H E hr => ⟨fun _ _ _ => False, fun _ _ _ => False, ⟨⟨fun pins s σ H D I h => h.elim⟩, fun D2 ρ μ q => q.elim⟩, fun _ _ _ _ h => h.elim⟩
end
end Y

set_option Elab.async false
set_option linter.all false
set_option maxRecDepth 100000
set_option maxHeartbeats 4000000
namespace Y
open PySem PySem.Spec PyProof.Rows L2
/-! isinstance(x, (T1, T2, ..)), types that are built in -/
def kitL (t : String) : List String → Option Bool
  | [] => some false
  | c :: cs => match kitB t c with
    | some true => some true
    | some false => kitL t cs
    | none => none
theorem kitL_ok {K : PySem.W.Frag} {t : String} : ∀ {cs : List String} {b : Bool}, kitL t cs = some b → PySem.W.kitAny K (.type t) (cs.map Value.type) = some b
  | [], b, h => by cases h; exact kitAny_nil
  | c :: cs, b, h => by
    unfold kitL at h
    cases q : kitB t c with
    | none => simp only [q] at h; cases h
    | some b1 =>
      cases b1 with
      | true => simp only [q] at h; cases h; exact kitAny_cons (kit_ty q) (fun z => by cases z) (fun _ => rfl)
      | false => simp only [q] at h; exact kitAny_cons (kit_ty q) (fun _ => kitL_ok h) (fun z => by cases z)
theorem kitL_nil {t : String} : kitL t [] = some false := rfl
theorem kitL_hit {t c : String} {cs : List String} (h : kitB t c = some true) : kitL t (c :: cs) = some true := by
  unfold kitL; simp only [h]
theorem kitL_miss {t c : String} {cs : List String} {b : Bool} (h : kitB t c = some false) (h2 : kitL t cs = some b) : kitL t (c :: cs) = some b := by
  unfold kitL; simp only [h]; exact h2
theorem eq_lsts {μ : Mu} {p p2 : Addr} {xs : List D} (s : D.shp 64 (D.lst xs) = true) (h : μ p = some (.lst xs)) (h2 : μ p2 = some (.lst xs)) : EqR μ (.adr p) (.adr p2) true := by
  refine .inr ⟨?_, ?_, ?_⟩
  · rw [rsv_lst h]; exact s
  · rw [rsv_lst h2]; exact s
  · rw [rsv_lst h, rsv_lst h2]; exact eqv_self rfl s
theorem eq_adr_lst {μ : Mu} {p : Addr} {xs : List D} (s : D.shp 64 (D.lst xs) = true) (h : μ p = some (.lst xs)) : EqR μ (.adr p) (.lst xs) true := by
  refine .inr ⟨?_, s, ?_⟩
  · rw [rsv_lst h]; exact s
  · rw [rsv_lst h]; exact eqv_self rfl s
theorem shp_str {n : Nat} {x : Str} : D.shp n (.str x) = PyData.strOk x := by cases n <;> rfl
theorem shp_int {n : Nat} {x : Int} : D.shp n (.int x) = true := by cases n <;> rfl
theorem shp_tup {n : Nat} {ds : List D} : D.shp (n + 1) (.tup ds) = D.shpA n ds := rfl
theorem shp_lst {n : Nat} {ds : List D} : D.shp (n + 1) (.lst ds) = D.shpA n ds := rfl
theorem shpA_cons {n : Nat} {d : D} {ds : List D} : D.shpA n (d :: ds) = (D.shp n d && D.shpA n ds) := by cases n <;> rfl
theorem shpA_nil {n : Nat} : D.shpA n [] = true := by cases n <;> rfl
mutual
theorem shp_mono : ∀ {n : Nat} {d : D}, D.shp n d = true → D.shp (n + 1) d = true
  | n, .non, _ => by cases n <;> rfl
  | n, .bl _, _ => by cases n <;> rfl
  | n, .int _, _ => by cases n <;> rfl
  | n, .str x, h => by rw [shp_str] at h ⊢; exact h
  | 0, .tup ds, h => by cases h
  | 0, .lst ds, h => by cases h
  | n + 1, .tup ds, h => by rw [shp_tup] at h ⊢; exact shpA_mono h
  | n + 1, .lst ds, h => by rw [shp_lst] at h ⊢; exact shpA_mono h
  | n, .ty _, h => by cases n <;> cases h
  | n, .adr _, h => by cases n <;> cases h
  | n, .obj _ _ _, h => by cases n <;> cases h
  | n, .scr _, h => by cases n <;> cases h
theorem shpA_mono : ∀ {n : Nat} {ds : List D}, D.shpA n ds = true → D.shpA (n + 1) ds = true
  | n, [], _ => shpA_nil
  | n, d :: ds, h => by
    rw [shpA_cons, Bool.and_eq_true] at h
    rw [shpA_cons, shp_mono h.1, shpA_mono h.2]; rfl
end
theorem shp_le {n m : Nat} {d : D} (h : D.shp n d = true) (l : n ≤ m) : D.shp m d = true := by
  obtain ⟨k, rfl⟩ := Nat.le.dest l
  induction k with
  | zero => exact h
  | succ k ih => exact shp_mono (ih (by omega))
theorem tys_paired : ∀ cs : List String, Paired ClsV (cs.map V.ty) (cs.map Value.type)
  | [] => .nil
  | c :: cs => .cons (.ty c) (tys_paired cs)
theorem tys_inv {K : PySem.W.Frag} {I : Hp} : ∀ {cs : List String} {vs : List V}, RpA K I (cs.map D.ty) vs → vs = cs.map V.ty
  | [], _, h => h
  | c :: cs, _, h => by
    obtain ⟨v, r, rfl, h1, h2⟩ := h
    rw [tys_inv h2]
    cases (show v = _ from h1)
    rfl
/-- something new of which nothing is said -/
theorem Kp.extra {μ : Mu} {I H : Hp} {p : Addr} {o : HO} (hp : H p = none) : Kp I μ H I μ (upd H p o) := ⟨Exx.refl _, fun b u e h1 h2 => ⟨by rw [upd_ne (ne_of_none e hp)]; exact e, h1, h2⟩⟩
theorem At0.extra {K : PySem.W.Frag} {μ : Mu} {I H : Hp} {p : Addr} {o : HO} (a : At0 K μ I H) (hp : H p = none) : At0 K μ I (upd H p o) := ⟨fun b u e => by
  rw [upd_ne (ne_of_none e (a.noI hp))]; exact a.sub b u e, fun b n e => by
  obtain ⟨h1, u, h2, h3⟩ := a.own b n e
  exact ⟨h1, u, by rw [upd_ne (ne_of_none h2 hp)]; exact h2, h3⟩⟩
theorem At.extra [Jx] {K : PySem.W.Frag} {μ : Mu} {I H : Hp} {p : Addr} {o : HO} (a : At K μ I H) (hp : H p = none) : At K μ I (upd H p o) := ⟨a.toAt0.extra hp, Jx.step a.j (Kp.extra hp)⟩
section
variable {X : Cx} {K : PySem.W.Frag} {a b c e o : Expr} {es rest : List Expr} {ta tb tc te to : TE} {ta2 tb2 tc2 te2 to2 : TE2} {pos apos cpos p tpos : Pos} {tl : TA} {tl2 : TA2}
variable {ρ : Env2} {μ : Mu} {Q : DK}
def dTys (cs : List String) : TA2 := fun _ μ Q => Q (cs.map D.ty) μ
def dIsiT (cs : List String) (ta : TE2) : TE2 := fun ρ μ Q => ta ρ μ fun d μ1 => ∃ t b, tyD μ1 d = some t ∧ kitL t cs = some b ∧ Q (.bl b) μ1
def dIsiTK (cs : List String) (Q : DK) : DK := fun d μ1 => ∃ t b, tyD μ1 d = some t ∧ kitL t cs = some b ∧ Q (.bl b) μ1
theorem w_isiT {cs : List String} (h : ta2 ρ μ (dIsiTK cs Q)) : dIsiT cs ta2 ρ μ Q := h
theorem w_isiTK {cs : List String} {d : D} {t : String} {b : Bool} (h : tyD μ d = some t) (h2 : kitL t cs = some b) (q : Q (.bl b) μ) : dIsiTK cs Q d μ := ⟨t, b, h, h2, q⟩
theorem e_isiT [Jx] {cs : List String} {x1} (hg : Gl X "isinstance") (hm : X.mg "isinstance" = none) (ha : PE2 X a ta ta2) (hl : PA2 X es tl (dTys cs)) (hz : cs.length ≤ sizeLine := by decide) (hv : bootBuiltins "isinstance" = some (.builtin "isinstance") := by decide +kernel)
    (he : starEach [a, .Tuple es x1 tpos] X.env = (false, eval a X.env) :: starEach [.Tuple es x1 tpos] X.env := by rfl) (hpl : (backTo pos (starEach [.Tuple es x1 tpos] X.env)).any (·.1) = false := by rfl) (hs2 : starEach [.Tuple es x1 tpos] X.env = (false, eval (.Tuple es x1 tpos) X.env) :: starEach [] X.env := by rfl) :
    PE2 X (.Call (.Name "isinstance" p) [a, .Tuple es x1 tpos] [] pos) (tCB (rIsiT X.K) (tCons ta (tCons (tTup tl) tNil))) (dIsiT cs ta2) :=
  ⟨pe_callB call_isiT hg hm hv (pa_cons ha.pe (pa_cons (pe_tup hl.pa) pa_nil hs2) he) (he := he) (hpl := hpl), fun ρ μ Q2 q I σ H hA hS Q g => ha.re ρ μ _ q I σ H hA hS _ fun d μ1 v I1 H1 q1 a1 k1 r1 => by
    obtain ⟨t, b, h1, h2, q1⟩ := q1
    refine hl.re ρ μ1 (fun ds μ2 => ds = cs.map D.ty ∧ μ2 = μ1) ⟨rfl, rfl⟩ I1 σ H1 a1 (hS.mono k1.ex) _ ?_
    rintro ds μ2 vs I2 H2 ⟨rfl, rfl⟩ a2 k2 r2
    cases tys_inv r2
    refine ⟨by rw [List.length_map]; exact hz, fun tp htp => ?_⟩
    have a3 := a2.extra (o := .tup (cs.map V.ty)) htp
    exact ⟨v, tp, cs.map V.ty, .type t, cs.map Value.type, b, rfl, upd_same, tys_paired cs, tyD_ok a3 (r1.mono k2.ex) h1, kitL_ok h2, g _ _ _ _ _ q1 a3 ((k1.trans k2).trans (Kp.extra htp)) rfl⟩⟩
end
end Y

set_option Elab.async false
set_option linter.all false
set_option maxRecDepth 100000
set_option maxHeartbeats 4000000
namespace Y
open PySem PySem.Spec PyProof.Rows L2
/-! exceptions of own classes that stand over ValueError -/
/-- the root of them: it has no __init__ of its own -/
structure Rc (K : PySem.W.Frag) (mg : Str → Option Value) (x : Str) (R : Addr) : Prop where
  mg : mg x = some (.ref R)
  ga : PySem.W.specialIn K (.ref R) "__getattribute__" = some (some (.builtin "type.__getattribute__"))
  rd : PySem.W.readsIn K R (.type "type") = true
  fc : PySem.W.findCls K (.ref R) (.type "type") "__init__" = some (.val (.builtin "ValueError.__init__"))
section
variable {X : Cx} {o e : Expr} {es : List Expr} {to te : TE} {ta : TA} {f x : Str} {p p' p1 p2 pos : Pos} {R : Addr}
theorem pe_rinit {pl : Sem Bool} (T : Rc X.K X.mg x R) (hg : Gl X x) (ha : PA X (e :: es) ta) (hdb : (x == ("__debug__" : Str)) = false := by decide)
    (hc : eval (.Call (.Attribute (.Name x p1) "__init__" p2) (e :: es) [] pos) X.env = (do
      let ov ← eval (.Name x p1) X.env
      standAt p2.atName
      let (f, first) ← holding [ov] (getMethod ov "__init__" pl)
      callWith pos f first (backTo pos (starEach (e :: es) X.env)) (backToKw pos (keywordEach [] X.env))) := by rfl)
    (he : starEach (e :: es) X.env = (false, eval e X.env) :: starEach es X.env := by rfl) (hpl : (backTo pos (starEach es X.env)).any (·.1) = false := by rfl) :
    PE X (.Call (.Attribute (.Name x p1) "__init__" p2) (e :: es) [] pos) (tVeI X.K ta) := by
  refine ⟨fun pins s σ H Q I h => ?_⟩
  refine PySem.W.methodCall_KW (ld_glob I hg T.mg ?_ hdb) hc
  refine PySem.W.method_cls I.kIn T.ga (PySem.W.cls_value I.kIn T.rd T.fc (by decide +kernel) ?_)
  show wpAny _ _ (callWith pos (Value.builtin "ValueError.__init__") [] (backTo pos (starEach (e :: es) X.env)) []) _ _ _
  refine PyProof.Rows.callWith_method1 (thn (ha.run pos pins _ σ H _ (I.tok _) h) fun us s1 ⟨vs, H1, I1, r1, a, C, ws, ev, hl, T, ea, q⟩ => ?_) he hpl
  subst ev
  cases r1 with
  | @cons _ u0 _ ur ra rw' =>
    obtain rfl : u0 = Value.ref a := ra
    have hlen : ur.length ≤ sizeLine := by
      rw [← Paired.length rw', sizeLine_eq]
      omega
    exact oinit_ok T I1 ea hlen fun s' J => ⟨.non, H1, J, rfl, q⟩
end
/-- what an __init__ promises that stores its parameters under these names -/
def spX (C : Addr) (ns : List Str) : Sp := fun vs H Q _ => ∃ a ys, vs = .ref a :: ys ∧ ys.length = ns.length ∧ H a = some (exo a C none) ∧
  ∀ dx H', H dx = none → dx ≠ a → H' a = some (exo a C (some dx)) → H' dx = some (exd dx (ns.zip ys).reverse) → (∀ b, b ≠ a → b ≠ dx → H' b = H b) → Q .non H'
section
variable {K : PySem.W.Frag} {C : Addr}
theorem read1 {f : Str} {t : Str} {vs : List V} {H : Hp} {Q : VK} {E : XK} {N : List Str} (T : OexC K C) (n : PySem.W.findIn K (.ref C) f = some none) (h : spX C [f] vs H Q E) :
    tSeq (tDrop (tVeI K (tCons (tVar 0) (tCons (tC (.str t)) tNil)))) (tSeq (tOst K f (tVar 0) (tVar 1)) tNext) { nx := fun _ H' => Q .non H', rt := Q } (start N vs) H := by
  obtain ⟨a, ys, rfl, hl, ha, q⟩ := h
  match ys, hl with
  | [y], _ =>
    refine ⟨_, rfl, a, C, [.str t], rfl, by show 1 ≤ 1000; decide, T, ha, ?_⟩
    refine ⟨_, rfl, _, rfl, a, C, rfl, T, n, .inl ⟨ha, fun dx hd ne => ?_⟩⟩
    exact q dx _ hd ne upd_same (by rw [upd_ne ne, upd_same]; rfl) (fun b b1 b2 => by rw [upd_ne b1, upd_ne b2])
theorem read2 {f g : Str} {t : Str} {vs : List V} {H : Hp} {Q : VK} {E : XK} {N : List Str} (T : OexC K C) (n : PySem.W.findIn K (.ref C) f = some none) (n2 : PySem.W.findIn K (.ref C) g = some none) (h : spX C [f, g] vs H Q E) :
    tSeq (tDrop (tVeI K (tCons (tVar 0) (tCons (tC (.str t)) tNil)))) (tSeq (tOst K f (tVar 0) (tVar 1)) (tSeq (tOst K g (tVar 0) (tVar 2)) tNext)) { nx := fun _ H' => Q .non H', rt := Q } (start N vs) H := by
  obtain ⟨a, ys, rfl, hl, ha, q⟩ := h
  match ys, hl with
  | [y, z], _ =>
    refine ⟨_, rfl, a, C, [.str t], rfl, by show 1 ≤ 1000; decide, T, ha, ?_⟩
    refine ⟨_, rfl, _, rfl, a, C, rfl, T, n, .inl ⟨ha, fun dx hd ne => ?_⟩⟩
    refine ⟨_, rfl, _, rfl, a, C, rfl, T, n2, .inr ⟨dx, _, upd_same, by rw [upd_ne ne, upd_same], by simp, ?_⟩⟩
    exact q dx _ hd ne (by rw [upd_ne ne.symm, upd_same]) upd_same (fun b b1 b2 => by rw [upd_ne b2, upd_ne b1, upd_ne b2])
end
/-! ### where exceptions go -/
structure Wl [Jx] (X : Cx) (W2 : Env2 → XK2) (W : WX) : Prop where
  tk : Takes X W
  link : ∀ ρ σ C fs I μ H dx hfs, W2 ρ C fs μ → At0 X.K μ I H → Jx.J I μ H → Slots X.K I ρ σ → H dx = some (.xd hfs) → I dx = none → RpF X.K I fs hfs → W (.ref C) (some dx) σ H
/-- a def of the module that keeps a promise, and may raise -/
structure Dx (P : Program) (w : World) (K : PySem.W.Frag) (mg : Str → Option Value) (base : Heap) (x : Str) (k : Nat) (ps : List Str) (sp : Sp2) : Prop where
  of : ∃ f fd, FnOk P w K mg base (L2.CX P w) k f fd ps (toSp K sp) ∧ mg x = some (.ref f) ∧ PySem.W.keepIn K (.ref f) = true ∧ Binds K fd ps []
/-- the class of an exception as it stands, its __init__ stores these names -/
structure Xk (K : PySem.W.Frag) (mg : Str → Option Value) (x q : Str) (C : Addr) (st : Stmt) (ns : List Str) : Prop where
  oex : OexC K C
  gl : mg x = some (.ref C)
  of : ∃ f fd, Fun K "__init__" q st f fd ∧ PySem.W.findIn K (.ref C) "__init__" = some (some (.ref f)) ∧ PySem.W.typeIn K (.ref f) = some (.type "function") ∧ Binds K fd ("self" :: ns) []
  no : ∀ n ∈ ns, PySem.W.findIn K (.ref C) n = some none
/-- .. with its promise -/
structure Xi (P : Program) (w : World) (K : PySem.W.Frag) (mg : Str → Option Value) (base : Heap) (x : Str) (C : Addr) (ns : List Str) : Prop where
  oex : OexC K C
  gl : mg x = some (.ref C)
  of : ∃ f fd, FnOk P w K mg base CX0 1 f fd ("self" :: ns) (spX C ns) ∧ PySem.W.findIn K (.ref C) "__init__" = some (some (.ref f)) ∧ PySem.W.typeIn K (.ref f) = some (.type "function") ∧ Binds K fd ("self" :: ns) []
theorem Xk.ok {P : Program} {w : World} {K : PySem.W.Frag} {mg : Str → Option Value} {base : Heap} {x q : Str} {C : Addr} {st : Stmt} {ns : List Str} (T : Xk K mg x q C st ns) (S : FnScope ("self" :: ns) ("self" :: ns) (defScope st))
    (hb : ∀ (f : Addr) (cdv : Value) (A : Around) (outer : List Env) (s : Shared) (H : Hp) (E : XK), ∃ t, PSs (cxOf CX0 P w K mg base ("self" :: ns) q (defScope st) f cdv A outer s H E).nox (defBody st) t ∧ ∀ vs H Q E, spX C ns vs H Q E → t { nx := fun _ H' => Q .non H', rt := Q } (start ("self" :: ns) vs) H) : Xi P w K mg base x C ns := by
  obtain ⟨f, fd, F, h1, h2, h3⟩ := T.of
  refine ⟨T.oex, T.gl, f, fd, F.ok (k := 0) S (fun vs H Q E h => ?_) (fun cdv A outer s H vs Q E hr h => ?_), h1, h2, h3⟩
  · obtain ⟨a, ys, rfl, hl, _⟩ := h
    rw [List.length_cons, List.length_cons, hl]
  · obtain ⟨t, ht, hq⟩ := hb f cdv A outer s H E
    exact ⟨t, ht, hq vs H Q E h⟩
section
variable {X : Cx} {K : PySem.W.Frag} {a b c e o : Expr} {es rest : List Expr} {ta tb tc te to : TE} {ta2 tb2 tc2 te2 to2 : TE2} {pos apos cpos p tpos : Pos} {tl : TA} {tl2 : TA2} {x : Str} {C : Addr}
variable {ρ : Env2} {μ : Mu} {Q : DK} {k j : Nat} {ps ns : List Str} {sp : Sp2} {W2 : Env2 → XK2} {W : WX}
/-- f(..) that may raise -/
def dCallX (sp : Sp2) (W2 : Env2 → XK2) (t : TA2) : TE2 := fun ρ μ Q => t ρ μ fun ds μ1 => sp ds μ1 Q (W2 ρ)
theorem w_callX (h : tl2 ρ μ fun ds μ1 => sp ds μ1 Q (W2 ρ)) : dCallX sp W2 tl2 ρ μ Q := h
theorem re_callX [Jx] (hw : Wl X W2 W) (h : RA X.K tl tl2) : RE X.K (tCallS (toSp X.K sp) (WE W) tl) (dCallX sp W2 tl2) := fun ρ μ Q2 q I σ H hA hS Q g =>
  h ρ μ _ q I σ H hA hS _ fun ds μ1 vs I1 H1 q1 a1 k1 r1 =>
    ⟨ds, μ1, I1, Q2, W2 ρ, a1.toAt0, r1, q1, (g.past k1).low a1, fun C fs μ' I' H' dx hfs e a k h hi r => hw.link ρ σ C fs I' μ' H' dx hfs e a (Jx.step a1.j k) (hS.mono (k1.trans k).ex) h hi r⟩
theorem e_callX [Jx] (F : Dx X.prog X.w X.K X.mg X.base x j ps sp) (hw : Wl X W2 W) (hr : Room k X.A) (hg : Gl X x) (ha : PA2 X (e :: es) tl tl2) (hjk : j ≤ k := by first | decide | omega) (hdb : (x == ("__debug__" : Str)) = false := by decide) (he : starEach (e :: es) X.env = (false, eval e X.env) :: starEach es X.env := by rfl) (hpl : (backTo pos (starEach es X.env)).any (·.1) = false := by rfl) :
    PE2 X (.Call (.Name x p) (e :: es) [] pos) (tCallS (toSp X.K sp) (WE W) tl) (dCallX sp W2 tl2) := by
  obtain ⟨f, fd, F, hm, hk, hb⟩ := F.of
  exact ⟨pe_callS F (hr.mono hjk) hg hm hk hb (passAt hw.tk) ha.pa hdb he hpl, re_callX hw ha.re⟩
/-- raise C(..) -/
def dRaise (C : Addr) (ns : List Str) (W2 : Env2 → XK2) (t : TA2) : TS2 := fun _ ρ μ => t ρ μ fun ds μ1 => ds.length = ns.length ∧ W2 ρ C (ns.zip ds).reverse μ1
def dRaiseK (C : Addr) (ns : List Str) (W3 : XK2) : List D → Mu → Prop := fun ds μ1 => ds.length = ns.length ∧ W3 C (ns.zip ds).reverse μ1
theorem w_raise {D2 : Ends2} (h : tl2 ρ μ (dRaiseK C ns (W2 ρ))) : dRaise C ns W2 tl2 D2 ρ μ := h
theorem w_raiseK {W3 : XK2} {ds : List D} (l : ds.length = ns.length) (q : W3 C (ns.zip ds).reverse μ) : dRaiseK C ns W3 ds μ := ⟨l, q⟩
theorem RpF.revAux {I : Hp} : ∀ {a c : List (Str × D)} {b d : List (Str × V)}, RpF K I a b → RpF K I c d → RpF K I (a.reverseAux c) (b.reverseAux d)
  | _, _, _, _, .nil, g => g
  | (x, u) :: a, c, (y, v) :: b, d, .cons h1 h2, g => RpF.revAux (a := a) (c := (x, u) :: c) (b := b) (d := (y, v) :: d) h2 (.cons h1 g)
theorem RpF.rev {I : Hp} {fs : List (Str × D)} {hfs : List (Str × V)} (h : RpF K I fs hfs) : RpF K I fs.reverse hfs.reverse := RpF.revAux h .nil
theorem s_raise [Jx] (T : Xi X.prog X.w X.K X.mg X.base x C ns) (hw : Wl X W2 W) (hr : Room k X.A) (hg : Gl X x) (hc : X.calm = true) (ha : PA2 X (e :: es) tl tl2) (hn : ns.length ≤ 900 := by decide) (hk : 2 ≤ k := by first | decide | omega) (hdb : (x == ("__debug__" : Str)) = false := by decide)
    (he : starEach (e :: es) X.env = (false, eval e X.env) :: starEach es X.env := by rfl) (hpl : (backTo pos (starEach es X.env)).any (·.1) = false := by rfl) :
    PS2 X (.Raise (some (.Call (.Name x p) (e :: es) [] pos)) none tpos) (fun _ σ H => tMkO C (spX C ns) [] tl σ H fun cls d H' => W cls d σ H') (dRaise C ns W2 tl2) := by
  obtain ⟨f, fd, F, h1, h2, h3⟩ := T.of
  refine ⟨ps_raise hc hw.tk (pmk_oex T.oex h1 h2 F (hr.mono hk) h3 .nil pass0 hg T.gl ha.pa hdb he hpl), fun D2 ρ μ q I σ H hA hS D g => ?_⟩
  refine ha.re ρ μ _ q I σ H hA hS _ fun ds μ1 vs I1 H1 q1 a1 k1 r1 => ?_
  obtain ⟨hl, q1⟩ := q1
  have hl2 : vs.length = ns.length := r1.length.trans hl
  refine ⟨by omega, fun a hna => ?_⟩
  rw [List.append_nil]
  refine ⟨a, vs, rfl, hl2, upd_same, fun dx H' hdx hne e1 e2 e3 => ⟨rfl, dx, _, e1, e2, ?_, ?_⟩⟩
  · rw [upd_ne hne] at hdx; exact hdx
  · have hd1 : H1 dx = none := by rw [upd_ne hne] at hdx; exact hdx
    have eq : upd (del H' a) dx (.xd (ns.zip vs).reverse) = upd H1 dx (.xd (ns.zip vs).reverse) := by
      funext b
      by_cases hb : b = dx
      · rw [hb, upd_same, upd_same]
      · rw [upd_ne hb, upd_ne hb]
        by_cases hb2 : b = a
        · rw [hb2, del_same, hna]
        · rw [del_ne hb2, e3 b hb2 hb, upd_ne hb2]
    rw [eq]
    exact hw.link ρ σ C _ I1 μ1 _ dx _ q1 (a1.toAt0.extra hd1) (Jx.step a1.j (Kp.extra hd1)) (hS.mono k1.ex) upd_same (a1.noI hd1) ((RpF.zip hl.symm r1).rev)
/-- THE RULE for a def that may raise -/
theorem Tx.okX {P : Program} {w : World} {mg : Str → Option Value} {base : Heap} {st : Stmt} {N : List Str} (T : Tx K mg x st ps) (S : FnScope N ps (defScope st)) (len : ∀ ds μ Q E, sp ds μ Q E → ds.length = ps.length)
    (hb : ∀ [Jx] (f : Addr) (cdv : Value) (A : Around) (outer : List Env) (s : Shared) (H : Hp) (E : XK) (ds : List D) (μ : Mu) (Q : DK) (E2 : XK2), Room k (A.deeper (envOfC x (defScope st) s.heap.objs.size f cdv)) → Wl (cxOf (L2.CX P w) P w K mg base N x (defScope st) f cdv A outer s H E) (fun _ => E2) (fun cls d _ H => E cls d H) → sp ds μ Q E2 →
      ∃ ts t, PSs2 (cxOf (L2.CX P w) P w K mg base N x (defScope st) f cdv A outer s H E) (defBody st) ts t ∧ t { nx := fun _ μ' => RtC Q .non μ', rt := RtC Q } (start2 N ds) μ) : Dx P w K mg base x (k + 1) ps sp := by
  obtain ⟨f, fd, F, hm, hbd⟩ := T.of
  refine ⟨f, fd, F.okX S (fun vs H Q E h => ?_) (fun cdv A outer s H vs Q E hr h => ?_), hm, F.kp, hbd⟩
  · obtain ⟨ds, μ, I, Q2, E2, _, r, hsp, _⟩ := h
    rw [r.length]; exact len _ _ _ _ hsp
  · obtain ⟨ds, μ, I, Q2, E2, hA, r, hsp, g, gx⟩ := h
    letI jx : Jx := ⟨fun I' μ' H' => Kp I μ H I' μ' H', fun a b => a.trans b⟩
    have hA' : At K μ I H := ⟨hA, Kp.refl⟩
    have hw : Wl (cxOf (L2.CX P w) P w K mg base N x (defScope st) f cdv A outer s H E) (fun _ => E2) (fun cls d _ H => E cls d H) :=
      ⟨takes_of rfl rfl rfl rfl, fun ρ σ C fs I' μ' H' dx hfs e a j _ h hi r => gx C fs μ' I' H' dx hfs e a j h hi r⟩
    obtain ⟨ts, t, ht, hq⟩ := hb f cdv A outer s H E ds μ Q2 E2 hr hw hsp
    refine ⟨ts, ht.ps, ht.re _ _ μ hq I _ H hA' (slots_start r) _ ⟨?_, ?_, fun _ _ _ _ _ h => h.elim, fun _ _ _ _ _ h => h.elim⟩⟩
    · rintro ρ' μ' σ' I' H' ⟨d', μ2, sh, q⟩ a' s' k'
      obtain ⟨I2, a2, k2, r2⟩ := sh K I' H' .non a' rfl
      exact g d' μ2 _ I2 H' q a2.toAt0 (k'.trans k2) r2
    · rintro d μ' v I' H' ⟨d', μ2, sh, q⟩ a' k' r'
      obtain ⟨I2, a2, k2, r2⟩ := sh K I' H' v a' r'
      exact g d' μ2 _ I2 H' q a2.toAt0 (k'.trans k2) r2
end
end Y

set_option Elab.async false
set_option linter.all false
set_option maxRecDepth 100000
set_option maxHeartbeats 4000000
namespace Y
open PySem PySem.Spec PyProof.Rows L2
/-! try: .. except R as e: .. -/
abbrev Jx.off : Jx := ⟨fun _ _ _ => False, fun h _ => h⟩
/-- what the suite knows of the exception that it holds -/
def Xs [Jx] (K : PySem.W.Frag) (cls : Value) (d : Option Addr) (C : Addr) (fs : List (Str × D)) : Prop := ∀ I μ H, At0 K μ I H → Jx.J I μ H → cls = .ref C ∧ ∃ dd hfs, d = some dd ∧ H dd = some (.xd hfs) ∧ RpF K I fs hfs
theorem Xs.no {K : PySem.W.Frag} {cls : Value} {d : Option Addr} {C : Addr} {fs : List (Str × D)} : @Xs Jx.off K cls d C fs := fun _ _ _ _ h => h.elim
theorem Slots.unset {K : PySem.W.Frag} {I : Hp} {ρ : Env2} {σ : L2.St} (i : Nat) (h : Slots K I ρ σ) : Slots K I (ρ.set i none) (σ.set i none) := by
  refine ⟨by rw [List.length_set, List.length_set]; exact h.1, fun j d q => ?_⟩
  by_cases hj : i = j
  · subst hj
    by_cases hl : i < ρ.length
    · rw [List.getElem?_set_self hl] at q; cases q
    · rw [List.getElem?_eq_none_iff.mpr (by rw [List.length_set]; omega)] at q; cases q
  · rw [List.getElem?_set_ne hj] at q ⊢
    exact h.2 j d q
/-- the same wishes, where more is known -/
theorem GoS.over {j1 j2 : Jx} {K : PySem.W.Frag} {I : Hp} {μ : Mu} {H : Hp} {D2 : Ends2} {D : Ends} (h : ∀ I μ H, j2.J I μ H → j1.J I μ H) (g : @GoS j1 K I μ H D2 D) : @GoS j2 K I μ H D2 D :=
  @GoS.mk j2 _ _ _ _ _ _
    (fun ρ' μ' σ' I' H' q a s k => @GoS.nx j1 _ _ _ _ _ _ g ρ' μ' σ' I' H' q (@At.mk j1 _ _ _ _ (@At.toAt0 j2 _ _ _ _ a) (h _ _ _ (@At.j j2 _ _ _ _ a))) s k)
    (fun d μ' v I' H' q a k r => @GoS.rt j1 _ _ _ _ _ _ g d μ' v I' H' q (@At.mk j1 _ _ _ _ (@At.toAt0 j2 _ _ _ _ a) (h _ _ _ (@At.j j2 _ _ _ _ a))) k r)
    (fun ρ' μ' σ' I' H' q a s k => @GoS.bk j1 _ _ _ _ _ _ g ρ' μ' σ' I' H' q (@At.mk j1 _ _ _ _ (@At.toAt0 j2 _ _ _ _ a) (h _ _ _ (@At.j j2 _ _ _ _ a))) s k)
    (fun ρ' μ' σ' I' H' q a s k => @GoS.ct j1 _ _ _ _ _ _ g ρ' μ' σ' I' H' q (@At.mk j1 _ _ _ _ (@At.toAt0 j2 _ _ _ _ a) (h _ _ _ (@At.j j2 _ _ _ _ a))) s k)
/-- behind the suite the name is gone -/
def gone2 (i : Nat) (D2 : Ends2) : Ends2 := ⟨fun ρ μ => D2.nx (ρ.set i none) μ, D2.rt, fun ρ μ => D2.bk (ρ.set i none) μ, fun ρ μ => D2.ct (ρ.set i none) μ⟩
/-- where an exception of the body goes -/
def wAs2 (K : PySem.W.Frag) (c : Value) (i : Nat) (ts2 : Addr → Addr → List (Str × D) → TS2) (Wout2 : Env2 → XK2) (D2 : Ends2) : Env2 → XK2 := fun ρ C fs μ =>
  ∃ b, PySem.W.exmOne K (.ref C) c = some b ∧ (b = true → ∀ a, ts2 a C fs (gone2 i D2) (ρ.set i (some (.adr a))) μ) ∧ (b = false → Wout2 ρ C fs μ)
theorem w_caught {K : PySem.W.Frag} {c : Value} {i : Nat} {ts2 : Addr → Addr → List (Str × D) → TS2} {Wout2 : Env2 → XK2} {D2 : Ends2} {ρ : Env2} {C : Addr} {fs : List (Str × D)} {μ : Mu} (h : PySem.W.exmOne K (.ref C) c = some true) (q : ∀ a, ts2 a C fs (gone2 i D2) (ρ.set i (some (.adr a))) μ) : wAs2 K c i ts2 Wout2 D2 ρ C fs μ :=
  ⟨true, h, fun _ => q, fun z => by cases z⟩
def dTry (K : PySem.W.Frag) (c : Value) (i : Nat) (tb2 : (Env2 → XK2) → TS2) (ts2 : Addr → Addr → List (Str × D) → TS2) (Wout2 : Env2 → XK2) : TS2 := fun D2 ρ μ => tb2 (wAs2 K c i ts2 Wout2 D2) D2 ρ μ
theorem w_try {K : PySem.W.Frag} {c : Value} {i : Nat} {tb2 : (Env2 → XK2) → TS2} {ts2 : Addr → Addr → List (Str × D) → TS2} {Wout2 : Env2 → XK2} {D2 : Ends2} {ρ : Env2} {μ : Mu} (h : tb2 (wAs2 K c i ts2 Wout2 D2) D2 ρ μ) : dTry K c i tb2 ts2 Wout2 D2 ρ μ := h
theorem s_try [jx : Jx] {X : Cx} {x n : Str} {c : Value} {i : Nat} {body suite : List Stmt} {b₀ : Stmt} {np pos pos' : Pos} {tb : WX → TS} {tb2 : (Env2 → XK2) → TS2} {ts : Addr → Value → Option Addr → TS} {ts2 : Addr → Addr → List (Str × D) → TS2} {Wout : WX} {Wout2 : Env2 → XK2}
    (hN : X.N.Nodup) (hw : Wl X Wout2 Wout) (hc : Names X x c)
    (hb : ∀ [Jx] (W2 : Env2 → XK2) (W : WX) (pn : List (Addr × Obj)) (xe : Value → Shared → Prop), Wl (X.tr pn xe) W2 W → PSs2 (X.tr pn xe) body (tb W) (tb2 W2))
    (hsu : ∀ [Jx] (a : Addr) (oe : Obj) (cls : Value) (d : Option Addr) (pn : List (Addr × Obj)) (C : Addr) (fs : List (Str × D)), Zc cls d oe → (∃ vs, oe.data = .fields vs) → Xs X.K cls d C fs → PSs2 (X.suite a ((a, oe) :: pn)) (b₀ :: suite) (ts a cls d) (ts2 a C fs))
    (hs : X.stack = X.env :: X.outer := by rfl) (hf : X.env.frame = some X.env.locals := by rfl) (hi : X.N[i]? = some n := by rfl) (hln : X.env.kindOf n = some .local := by rfl) :
    PS2 X (.Try body [.ExceptHandler (some (.Name x np)) (some n) (b₀ :: suite) pos'] [] [] pos) (fun D σ H => tb (wAs X.K c i ts Wout D) D σ H) (dTry X.K c i tb2 ts2 Wout2) := by
  refine ⟨ps_try_as hs hf hN hi hln hc hw.tk (fun W pn xe tk _ => @PSs2.ps Jx.off _ _ _ _ (@hb Jx.off (fun _ _ _ _ => False) W pn xe (@Wl.mk Jx.off _ _ _ tk fun _ _ _ _ _ _ _ _ _ _ _ j => j.elim)))
    (fun a oe cls d pn hz hv => @PSs2.ps Jx.off _ _ _ _ (@hsu Jx.off a oe cls d pn 0 [] hz hv Xs.no)), fun D2 ρ μ q I σ H hA hS D g => ?_⟩
  have past : ∀ {I' : Hp} {μ' : Mu} {H' : Hp}, Kp I μ H I' μ' H' → GoS X.K I' μ' H' D2 D := fun k => g.past k
  let j1 : Jx := ⟨fun I' μ' H' => jx.J I' μ' H' ∧ Kp I μ H I' μ' H', fun a b => ⟨jx.step a.1 b, a.2.trans b⟩⟩
  have hA1 : @At j1 X.K μ I H := @At.mk j1 _ _ _ _ (@At.toAt0 jx _ _ _ _ hA) ⟨@At.j jx _ _ _ _ hA, Kp.refl⟩
  have hw1 : @Wl j1 (X.tr [] fun _ _ => True) (wAs2 X.K c i ts2 Wout2 D2) (wAs X.K c i ts Wout D) := by
    refine @Wl.mk j1 _ _ _ (fun _ _ _ => trivial) ?_
    rintro ρ' σ' C fs I' μ' H' dx hfs ⟨b, hb1, hy, hn⟩ a0 ⟨jj, kk⟩ hS' hd hi' hr
    refine ⟨b, hb1, fun e a ha => ?_, fun e => @Wl.link jx _ _ _ hw ρ' σ' C fs I' μ' H' dx hfs (hn e) a0 jj hS' hd hi' hr⟩
    have hmd : μ' dx = none := by
      cases z : μ' dx with
      | none => rfl
      | some m =>
        obtain ⟨_, o, ho, hR⟩ := a0.own dx m z
        rw [hd] at ho
        cases ho
        cases m with
        | lst _ => obtain ⟨_, e, _⟩ := hR; cases e
        | dk _ => obtain ⟨_, e, _⟩ := hR; cases e
        | ins _ _ => obtain ⟨_, _, e, _⟩ := hR; cases e
    let j2 : Jx := ⟨fun I2 μ2 H2 => jx.J I2 μ2 H2 ∧ H2 dx = some (.xd hfs) ∧ I2 dx = none ∧ μ2 dx = none ∧ Exx I' I2, fun p k => by
      obtain ⟨p1, p2, p3, p4, p5⟩ := p
      obtain ⟨r1, r2, r3⟩ := k.fr dx _ p2 p3 p4
      exact ⟨jx.step p1 k, r1, r2, r3, p5.trans k.ex⟩⟩
    have hA2 : @At j2 X.K μ' I' H' := @At.mk j2 _ _ _ _ a0 ⟨jj, hd, hi', hmd, Exx.refl _⟩
    have hxs : @Xs j2 X.K (.ref C) (some dx) C fs := fun I2 μ2 H2 _ p => ⟨rfl, dx, hfs, rfl, p.2.1, RpF.mono p.2.2.2.2 hr⟩
    have hR := @PSs2.re j2 _ _ _ _ (@hsu j2 a { cls := .ref C, dict := some dx, data := .fields #[] } (.ref C) (some dx) [] C fs ⟨rfl, rfl⟩ ⟨_, rfl⟩ hxs)
    refine hR (gone2 i D2) (ρ'.set i (some (.adr a))) μ' (hy e a) I' (σ'.set i (some (.ref a))) H' hA2 (hS'.set i rfl) _ ?_
    have g2 : @GoS j2 X.K I' μ' H' D2 D := GoS.over (j1 := jx) (j2 := j2) (fun _ _ _ p => p.1) (past kk)
    exact @GoS.mk j2 _ _ _ _ _ _ (fun ρ3 μ3 σ3 I3 H3 q3 a3 s3 k3 => @GoS.nx j2 _ _ _ _ _ _ g2 _ μ3 _ I3 H3 q3 a3 (s3.unset i) k3) (show @Go j2 X.K I' μ' H' D2.rt D.rt from @GoS.rt j2 _ _ _ _ _ _ g2)
      (fun ρ3 μ3 σ3 I3 H3 q3 a3 s3 k3 => @GoS.bk j2 _ _ _ _ _ _ g2 _ μ3 _ I3 H3 q3 a3 (s3.unset i) k3) (fun ρ3 μ3 σ3 I3 H3 q3 a3 s3 k3 => @GoS.ct j2 _ _ _ _ _ _ g2 _ μ3 _ I3 H3 q3 a3 (s3.unset i) k3)
  exact @PSs2.re j1 _ _ _ _ (@hb j1 _ _ _ _ hw1) D2 ρ μ q I σ H hA1 hS D (GoS.over (j1 := jx) (j2 := j1) (fun _ _ _ p => p.1) g)
/-- a body that lets nothing out -/
theorem Wl.none [Jx] {X : Cx} : Wl X (fun _ _ _ _ => False) (fun _ _ _ _ => False) := ⟨takes0, fun _ _ _ _ _ _ _ _ _ h => h.elim⟩
section
variable {X : Cx} {ta : TE} {ta2 : TE2} {a C C' : Addr} {oe : Obj} {cls : Value} {d : Option Addr} {pn : List (Addr × Obj)} {e : Expr} {pos : Pos} {f : Str} {fs : List (Str × D)} {ρ : Env2} {μ : Mu} {Q : DK}
def dXf (a C C' : Addr) (fs : List (Str × D)) (f : Str) (ta : TE2) : TE2 := fun ρ μ Q => ta ρ μ fun x μ1 => x = .adr a ∧ C = C' ∧ ∃ v, fs.lookup f = some v ∧ Q v μ1
def dXfK (a C C' : Addr) (fs : List (Str × D)) (f : Str) (Q : DK) : DK := fun x μ1 => x = .adr a ∧ C = C' ∧ ∃ v, fs.lookup f = some v ∧ Q v μ1
theorem w_xf (h : ta2 ρ μ (dXfK a C C' fs f Q)) : dXf a C C' fs f ta2 ρ μ Q := h
theorem w_xfK {v : D} (h : fs.lookup f = some v) (q : Q v μ) : dXfK a C C fs f Q (.adr a) μ := ⟨rfl, rfl, v, h, q⟩
theorem e_xf [Jx] (T : XfC X.K C') (hno : PySem.W.findIn X.K (.ref C') f = some none) (hz : Zc cls d oe) (hf : ∃ vs, oe.data = .fields vs) (hx : Xs X.K cls d C fs) (he : PE2 (X.suite a ((a, oe) :: pn)) e ta ta2)
    (hb : attributeBase e f (X.suite a ((a, oe) :: pn)).env (eval e (X.suite a ((a, oe) :: pn)).env) = eval e (X.suite a ((a, oe) :: pn)).env := by rfl) :
    PE2 (X.suite a ((a, oe) :: pn)) (.Attribute e f pos) (tXf a cls d C' f ta) (dXf a C C' fs f ta2) :=
  ⟨pe_xf T hno hz hf he.pe hb, fun ρ μ Q2 q I σ H hA hS Q g => he.re ρ μ _ q I σ H hA hS _ fun x μ1 v I1 H1 q1 a1 k1 r1 => by
    obtain ⟨rfl, rfl, v, hl, q1⟩ := q1
    obtain ⟨e1, dd, hfs, e2, e3, e4⟩ := hx I1 μ1 H1 a1.toAt0 a1.j
    obtain ⟨y, hy, ry⟩ := RpF.look f e4 hl
    exact ⟨r1, e1, dd, hfs, y, e2, e3, hy, g _ _ _ _ _ q1 a1 k1 ry⟩⟩
end
end Y

set_option Elab.async false
set_option linter.all false
set_option maxRecDepth 100000
set_option maxHeartbeats 4000000
namespace PySem.W
open PySem PySem.Calls PyProof.Rows
/-! isinstance of a caught exception that has a dict -/
section
variable {K : Frag} {D x : Addr} {ox : Obj} {od : Option Obj} {prog : Program} {w : World} {A : Around} {E : Value → Shared → Prop} {s : Shared}
theorem xd_find {name : Str} {a g : Value} (hc : (clsIn K D).isSome = true) (ha : findIn K (.ref D) name = some (some a)) (hg : specialIn K a "__get__" = some (some g)) (ht : takesIn K a = some true) : findObj K D od name = some (.bind g a) := by
  obtain ⟨cd, hc⟩ := Option.isSome_iff_exists.mp hc
  unfold findObj
  rw [hc, Option.bind_some, ha, Option.bind_some]
  simp [hg, ht]
theorem xd_class {Q : Option Value → Shared → Prop} (hga : findIn K (.ref D) "__getattribute__" = some (some (.builtin "BaseException.__getattribute__"))) (hgt : findIn K (.ref D) "__getattr__" = some none) (hsub : subIn K (.ref D) (.type "BaseException") = some true)
    (hdct : hasDictIn K D = true) (ha : findIn K (.ref D) "__class__" = some (some (.builtin "object.__class__")))
    (hn : specialIn K (.builtin "object.__class__") "__get__" = some (some (.builtin "getset_descriptor.__get__"))) (htk : takesIn K (.builtin "object.__class__") = some true) (hm : mroIn K D (.type "object") = some true)
    (X : K.In s.heap) (I : InstAt s.heap x ox D od) (h : Q (some (.ref D)) { s with toks := s.toks + 1 }) : wpAny (model prog w) A (getAttr? (.ref x) "__class__") Q E s := by
  have hf : findObj K D od "__class__" = some (.bind (.builtin "getset_descriptor.__get__") (.builtin "object.__class__")) := xd_find (by obtain ⟨cd, hc, _⟩ := any_some hdct; rw [hc]; rfl) ha hn htk
  obtain ⟨hp, g, d, t, os⟩ := s
  have T0 := I.type (M := model prog w)
  have T1 := looks_findIn (M := model prog w) X hga
  have T2 := looks_findIn (M := model prog w) X hgt
  have T3 := looks_find (M := model prog w) X I hf
  have sub : Looks (model prog w) hp (isInstance (.ref x) (.type "BaseException")) true := T0.andThen (looks_subIn X hsub)
  have n0 : (false && onTheHeap (Value.builtin "BaseException.__getattribute__")) = false := rfl
  have n2 : (Value.builtin "BaseException.__getattribute__" == Value.builtin "object.__getattribute__") = false := by decide +kernel
  have n1 : (onTheHeap (Value.ref D) && Value.builtin "BaseException.__getattribute__" == Value.builtin "object.__getattribute__") = false := by rw [n2]; rfl
  unfold getAttr? getAttrBy? getAttrBy
  refine wpAny_bind (wpAny_mkText (wpAny_bind (wpAny_attempt (wpAny_holding (wpAny_bind (T0.at (wpAny_bind (T1.at ?_))))))))
  show wpAny _ _ (if (onTheHeap (Value.ref D) && Value.builtin "BaseException.__getattribute__" == Value.builtin "object.__getattribute__") = true then _ else _) _ _ _
  rw [n1, if_neg Bool.false_ne_true]
  unfold getAttrByItsOwn hookBefore
  refine wpAny_bind ?_
  rw [if_pos (show onTheHeap (Value.ref D) = true from rfl)]
  refine T2.at ?_
  refine wpAny_bind (wpAny_attempt (wpAny_holding ?_))
  unfold callGetattribute
  rw [n0, if_neg Bool.false_ne_true]
  unfold boundAndCalled
  rw [PySem.F.excAttr_ValueError.ga.bind (.ref x)]
  refine wpAny_bind (wpAny_pure ?_)
  show wpAny _ _ (call (.builtin "BaseException.__getattribute__") [.ref x, .str "__class__" t]) _ _ _
  refine wpAny_call (codeAny_call_builtin PySem.F.excAttr_ValueError.ga.plain PySem.F.entry_bexc_ga ?_)
  refine @check_slot (model prog w) _ _ ⟨hp, g, d, t + 1, os⟩ "BaseException.__getattribute__" "BaseException" "__getattribute__" (.ref x) [.str "__class__" t] [] _ (by decide +kernel) (by decide +kernel) sub (PySem.F.args_bexc_ga (.ref x) (.str "__class__" t)) ?_
  unfold Builtin.«object.__getattribute__»
  refine wpAny_bind (wpAny_of_eq (a := ((Value.ref x : Value), [Value.str "__class__" t])) (by first | rfl | (simp only [slotArgs]; rfl)) ?_)
  refine wpAny_bind (wpAny_pure (wpAny_bind (T0.at (wpAny_bind (T3.at ?_)))))
  show wpAny _ _ (holding [Value.builtin "object.__class__"] (call (.builtin "getset_descriptor.__get__") [.builtin "object.__class__", .ref x, .ref D]) >>= ret) _ _ _
  refine wpAny_bind (wpAny_holding (wpAny_call (class_get (s := ⟨hp, g, d, t + 1, os⟩) (ox := ox) (od := od) X I hm ?_)))
  refine wpAny_pure ?_
  show wpAny _ _ (handedOut (.ref D)) _ _ _
  rw [handedOut_of (v := .ref D) rfl]
  first
    | exact wpAny_pure (wpAny_pure h)
    | exact wpAny_pure h
    | exact wpAny_pure (wpAny_bind (wpAny_pure (wpAny_pure h)))
theorem xd_kit (C : L2.ExcC K D) : KitX K (.ref x) (.ref D) (fun h => ∃ od, InstAt h x ox D od) where
  ty := fun _ _ _ ⟨_, I⟩ => I.type
  it := fun _ _ X _ => by
    obtain ⟨cdD, hcD, _⟩ := any_some C.hd
    unfold clsIn at hcD
    split at hcD
    · rename_i c' d' cd' sl' ho
      intro A' Q' E' s' k q
      unfold isType loadHead
      exact wpAny_bind (wpAny_loadPart (k _ _ (X _ _ ho)) (wpAny_pure q))
    · cases hcD
  ne := fun h tp dd its n sl X htp => by
    obtain ⟨cdD, hcD, _⟩ := any_some C.hd
    refine Bool.eq_false_iff.mpr fun q => ?_
    have e : D = tp := Value.ref.inj (beq_iff_eq.mp q)
    subst e
    unfold clsIn at hcD
    split at hcD
    · rename_i c' d' cd' sl' ho
      have z := (X _ _ ho).symm.trans htp
      cases z
    · cases hcD
  ca := fun X ⟨_, I⟩ k => xd_class C.hg C.hk C.hs C.hd C.ha C.hn C.ht C.hm X I k
end
end PySem.W

set_option Elab.async false
set_option linter.all false
set_option maxRecDepth 100000
set_option maxHeartbeats 4000000
namespace Y
open PySem PySem.Spec PyProof.Rows L2
/-! isinstance(e, R), isinstance(e, (R, S, ..)), e the exception that the suite holds -/
def rIsX (K : PySem.W.Frag) (a : Addr) (cls : Value) (d : Option Addr) : List V → Hp → VK → Prop := fun xs H Q => ∃ (D dd : Addr) (hfs : List (Str × V)) (c : V) (cv : Value) (b : Bool), cls = .ref D ∧ ExcC K D ∧ d = some dd ∧ H dd = some (.xd hfs) ∧ xs = [.ref a, c] ∧ ClsV c cv ∧ PySem.W.kitOne K (.ref D) cv = some b ∧ Q (.bl b) H
def rIsXT (K : PySem.W.Frag) (a : Addr) (cls : Value) (d : Option Addr) : List V → Hp → VK → Prop := fun xs H Q => ∃ (D dd tp : Addr) (hfs : List (Str × V)) (cs : List V) (us : List Value) (b : Bool), cls = .ref D ∧ ExcC K D ∧ d = some dd ∧ H dd = some (.xd hfs) ∧ xs = [.ref a, .ref tp] ∧ H tp = some (.tup cs) ∧ Paired ClsV cs us ∧ PySem.W.kitAny K (.ref D) us = some b ∧ Q (.bl b) H
section
variable {X : Cx} {a : Addr} {oe : Obj} {pn : List (Addr × Obj)} {cls : Value} {d : Option Addr}
theorem call_isX (hz : Zc cls d oe) (hf : ∃ vs, oe.data = .fields vs) : CallR (X.suite a ((a, oe) :: pn)) (.builtin "isinstance") (rIsX X.K a cls d) := by
  intro pins s σ H xs us Q I r h
  obtain ⟨D, dd, hfs, c, cv, b, rfl, C, rfl, ea, rfl, k, e, q⟩ := h
  obtain ⟨u1, u2, rfl, r1, r2⟩ := vals2 r
  cases (show u1 = Value.ref a from r1)
  have ec := k.eq r2
  subst ec
  obtain ⟨hget, _⟩ := I.pin (a, oe) (List.mem_append.mpr (.inl List.mem_cons_self))
  obtain ⟨vs, hv⟩ := hf
  obtain ⟨mA, hns, hr⟩ := (show ObjOk X.prog X.w H s.heap dd (.xd hfs) from I.hok dd _ ea)
  obtain ⟨od, ho, hl⟩ := lookIn_ns hns
  have J : PySem.W.InstAt s.heap a oe D (some od) := ⟨hget, hz.1, by unfold PySem.W.notCls; rw [hv] <;> rfl, by rw [hz.2]; exact ho⟩
  exact PySem.W.kia_one (PySem.W.xd_kit C) I.kIn ⟨_, J⟩ e (fun z => nomatch z) fun tk => ⟨.bl b, H, I.kept (t' := tk) fun _ _ z => z, rfl, q⟩
theorem call_isXT (hz : Zc cls d oe) (hf : ∃ vs, oe.data = .fields vs) : CallR (X.suite a ((a, oe) :: pn)) (.builtin "isinstance") (rIsXT X.K a cls d) := by
  intro pins s σ H xs us Q I r h
  obtain ⟨D, dd, tp, hfs, cs, ws, b, rfl, C, rfl, ea, rfl, hT, k, e, q⟩ := h
  obtain ⟨u1, u2, rfl, r1, r2⟩ := vals2 r
  cases (show u1 = Value.ref a from r1)
  cases (show u2 = Value.ref tp from r2)
  obtain ⟨hget, _⟩ := I.pin (a, oe) (List.mem_append.mpr (.inl List.mem_cons_self))
  obtain ⟨vs, hv⟩ := hf
  obtain ⟨mA, hns, hr⟩ := (show ObjOk X.prog X.w H s.heap dd (.xd hfs) from I.hok dd _ ea)
  obtain ⟨od, ho, hl⟩ := lookIn_ns hns
  have J : PySem.W.InstAt s.heap a oe D (some od) := ⟨hget, hz.1, by unfold PySem.W.notCls; rw [hv] <;> rfl, by rw [hz.2]; exact ho⟩
  obtain ⟨_, its, rv, o, h1, h2, n, h3⟩ := (show ObjOk X.prog X.w H s.heap tp (.tup cs) from I.hok tp _ hT)
  have e3 := ClsV.all k rv
  subst e3
  obtain ⟨oc, odc, dt, sl⟩ := o
  simp only at h2 h3
  subst h2 h3
  exact PySem.W.kia_tup (PySem.W.xd_kit C) I.kIn ⟨_, J⟩ h1 e (fun z => nomatch z) fun tk => ⟨.bl b, H, I.kept (t' := tk) fun _ _ z => z, rfl, q⟩
end
/-- a class as a value -/
inductive ClsD : D → Value → Prop where
  | own (R : Addr) : ClsD (.adr R) (.ref R)
  | ty (n : String) : ClsD (.ty n) (.type n)
theorem ClsD.rel {K : PySem.W.Frag} {I : Hp} {y : D} {u : Value} {v : V} (k : ClsD y u) (r : Rp K I y v) : ClsV v u := by
  cases k with
  | own R => cases (show v = _ from r); exact .own R
  | ty n => cases (show v = _ from r); exact .ty n
inductive ClsDs : List D → List Value → Prop where
  | nil : ClsDs [] []
  | cons {y : D} {u : Value} {ys : List D} {us : List Value} (h : ClsD y u) (t : ClsDs ys us) : ClsDs (y :: ys) (u :: us)
theorem ClsDs.rel {K : PySem.W.Frag} {I : Hp} : ∀ {ys : List D} {us : List Value} {vs : List V}, ClsDs ys us → RpA K I ys vs → Paired ClsV vs us
  | _, _, _, .nil, r => by cases (show _ = _ from r); exact .nil
  | _, _, _, .cons h t, r => by
    obtain ⟨v, w, rfl, r1, r2⟩ := r
    exact .cons (h.rel r1) (ClsDs.rel t r2)
section
variable {X : Cx} {K : PySem.W.Frag} {a C : Addr} {oe : Obj} {pn : List (Addr × Obj)} {cls : Value} {d : Option Addr} {fs : List (Str × D)} {e c : Expr} {es : List Expr} {te : TE} {te2 : TE2} {tl : TA} {tl2 : TA2} {p pos tpos : Pos} {ρ : Env2} {μ : Mu} {Q : DK} {x : Str}
def dIsX (K : PySem.W.Frag) (a C : Addr) : DRC := fun xs μ Q => ∃ y u b, xs = [.adr a, y] ∧ ClsD y u ∧ ExcC K C ∧ PySem.W.kitOne K (.ref C) u = some b ∧ Q (.bl b) μ
theorem w_isX {y : D} {u : Value} {b : Bool} (h1 : ClsD y u) (h2 : ExcC K C) (h3 : PySem.W.kitOne K (.ref C) u = some b) (q : Q (.bl b) μ) : dIsX K a C [.adr a, y] μ Q := ⟨y, u, b, rfl, h1, h2, h3, q⟩
theorem rc_isX [Jx] (hx : Xs K cls d C fs) : RC K (rIsX K a cls d) (dIsX K a C) := fun xs μ Q2 q I H vs hA r Q k => by
  obtain ⟨y, u, b, rfl, h1, h2, h3, q⟩ := q
  obtain ⟨v, w, rfl, e1, e2⟩ := r.two_inv
  cases (show v = _ from e1)
  obtain ⟨x1, dd, hfs, x2, x3, _⟩ := hx I μ H hA.toAt0 hA.j
  exact ⟨C, dd, hfs, w, u, b, x1, h2, x2, x3, rfl, h1.rel e2, h3, k _ _ _ _ _ q hA Kp.refl rfl⟩
theorem e_isX [Jx] (hz : Zc cls d oe) (hf : ∃ vs, oe.data = .fields vs) (hx : Xs X.K cls d C fs) (hg : Gl (X.suite a ((a, oe) :: pn)) "isinstance") (hm : (X.suite a ((a, oe) :: pn)).mg "isinstance" = none) (ha : PA2 (X.suite a ((a, oe) :: pn)) [e, c] tl tl2) (hv : bootBuiltins "isinstance" = some (.builtin "isinstance") := by decide +kernel)
    (he : starEach [e, c] (X.suite a ((a, oe) :: pn)).env = (false, eval e (X.suite a ((a, oe) :: pn)).env) :: starEach [c] (X.suite a ((a, oe) :: pn)).env := by rfl) (hpl : (backTo pos (starEach [c] (X.suite a ((a, oe) :: pn)).env)).any (·.1) = false := by rfl) :
    PE2 (X.suite a ((a, oe) :: pn)) (.Call (.Name "isinstance" p) [e, c] [] pos) (tCB (rIsX X.K a cls d) tl) (dCB (dIsX X.K a C) tl2) := e_cb (call_isX hz hf) (rc_isX (K := X.K) hx) hg hm hv ha (he := he) (hpl := hpl)
/-- .. of a tuple of classes -/
def dIsXT (K : PySem.W.Frag) (a C : Addr) (te : TE2) (t : TA2) : TE2 := fun ρ μ Q => te ρ μ fun x μ1 => t ρ μ1 fun ys μ2 => ∃ us b, x = .adr a ∧ ClsDs ys us ∧ ys.length ≤ sizeLine ∧ ExcC K C ∧ PySem.W.kitAny K (.ref C) us = some b ∧ Q (.bl b) μ2
def dIsXTK (K : PySem.W.Frag) (a C : Addr) (Q : DK) (x : D) : List D → Mu → Prop := fun ys μ2 => ∃ us b, x = .adr a ∧ ClsDs ys us ∧ ys.length ≤ sizeLine ∧ ExcC K C ∧ PySem.W.kitAny K (.ref C) us = some b ∧ Q (.bl b) μ2
theorem w_isXT (h : te2 ρ μ fun x μ1 => tl2 ρ μ1 (dIsXTK K a C Q x)) : dIsXT K a C te2 tl2 ρ μ Q := h
theorem w_isXTK {ys : List D} {us : List Value} {b : Bool} (h1 : ClsDs ys us) (hl : ys.length ≤ sizeLine) (h2 : ExcC K C) (h3 : PySem.W.kitAny K (.ref C) us = some b) (q : Q (.bl b) μ) : dIsXTK K a C Q (.adr a) ys μ := ⟨us, b, rfl, h1, hl, h2, h3, q⟩
theorem e_isXT [Jx] {x1} (hz : Zc cls d oe) (hf : ∃ vs, oe.data = .fields vs) (hx : Xs X.K cls d C fs) (hg : Gl (X.suite a ((a, oe) :: pn)) "isinstance") (hm : (X.suite a ((a, oe) :: pn)).mg "isinstance" = none) (he2 : PE2 (X.suite a ((a, oe) :: pn)) e te te2) (hl : PA2 (X.suite a ((a, oe) :: pn)) es tl tl2)
    (hv : bootBuiltins "isinstance" = some (.builtin "isinstance") := by decide +kernel) (he : starEach [e, .Tuple es x1 tpos] (X.suite a ((a, oe) :: pn)).env = (false, eval e (X.suite a ((a, oe) :: pn)).env) :: starEach [.Tuple es x1 tpos] (X.suite a ((a, oe) :: pn)).env := by rfl)
    (hpl : (backTo pos (starEach [.Tuple es x1 tpos] (X.suite a ((a, oe) :: pn)).env)).any (·.1) = false := by rfl) (hs2 : starEach [.Tuple es x1 tpos] (X.suite a ((a, oe) :: pn)).env = (false, eval (.Tuple es x1 tpos) (X.suite a ((a, oe) :: pn)).env) :: starEach [] (X.suite a ((a, oe) :: pn)).env := by rfl) :
    PE2 (X.suite a ((a, oe) :: pn)) (.Call (.Name "isinstance" p) [e, .Tuple es x1 tpos] [] pos) (tCB (rIsXT X.K a cls d) (tCons te (tCons (tTup tl) tNil))) (dIsXT X.K a C te2 tl2) :=
  ⟨pe_callB (call_isXT hz hf) hg hm hv (pa_cons he2.pe (pa_cons (pe_tup hl.pa) pa_nil hs2) he) (he := he) (hpl := hpl), fun ρ μ Q2 q I σ H hA hS Q g => he2.re ρ μ _ q I σ H hA hS _ fun x μ1 v I1 H1 q1 a1 k1 r1 => by
    refine hl.re ρ μ1 _ q1 I1 σ H1 a1 (hS.mono k1.ex) _ ?_
    rintro ys μ2 vs I2 H2 ⟨us, b, rfl, h1, hz2, h2, h3, q2⟩ a2 k2 r2
    cases (show v = _ from r1)
    refine ⟨by rw [r2.length]; exact hz2, fun tp htp => ?_⟩
    have a3 := a2.extra (o := .tup vs) htp
    obtain ⟨x1, dd, hfs, x2, x3, _⟩ := hx I2 μ2 _ a3.toAt0 a3.j
    exact ⟨C, dd, tp, hfs, vs, us, b, x1, h2, x2, x3, rfl, upd_same, h1.rel r2, h3, g _ _ _ _ _ q2 a3 ((k1.trans k2).trans (Kp.extra htp)) rfl⟩⟩
/-- the name of an own class -/
theorem e_clsN [Jx] (hg : Gl X x) (hm : X.mg x = some (.ref C)) (hdb : (x == ("__debug__" : Str)) = false := by decide) : PE2 X (.Name x p) (tC (.ref C)) (dC (.adr C)) := e_cst (pe_glob hg hm rfl hdb) fun _ => rfl
end
end Y
namespace Y
open PySem PySem.Spec PyProof.Rows L2
/-! what is not reached -/
def dNever : TS2 := fun _ _ _ => False
def dNeverE : TE2 := fun _ _ _ => False
theorem s_dead [Jx] {X : Cx} {st : Stmt} : PS2 X st (fun _ _ _ => False) dNever := ⟨⟨fun pins s σ H D I h => h.elim⟩, fun D2 ρ μ q => q.elim⟩
theorem e_dead [Jx] {X : Cx} {e : Expr} : PE2 X e (fun _ _ _ => False) dNeverE := ⟨⟨fun pins s σ H Q I h => h.elim⟩, fun ρ μ Q q => q.elim⟩
end Y

set_option Elab.async false
set_option linter.all false
set_option maxRecDepth 100000
set_option maxHeartbeats 4000000
namespace Y
open PySem PySem.Spec PyProof.Rows L2
/-! f-strings; all, any, sum, max, min of a list; xs.index(text); d.get -/
section
variable {X : Cx} {K : PySem.W.Frag} {a b c e o i : Expr} {es rest : List Expr} {ta tb tc te to ti : TE} {ta2 tb2 tc2 te2 to2 ti2 : TE2} {pos apos cpos p tpos : Pos} {tl : TA} {tl2 : TA2} {x : Str}
variable {ρ : Env2} {μ : Mu} {Q : DK} {k : Nat}
/-! ### f'..' -/
def dFmt (te : TE2) : TE2 := fun ρ μ Q => te ρ μ fun d μ1 => (∃ y, d = .str y ∧ y.length ≤ sizeLine ∧ Q (.str y) μ1) ∨ ∃ i : Int, d = .int i ∧ i.natAbs.log2 < 1920 ∧ Q (.str (toString i)) μ1
def dFmtK (Q : DK) : DK := fun d μ1 => (∃ y, d = .str y ∧ y.length ≤ sizeLine ∧ Q (.str y) μ1) ∨ ∃ i : Int, d = .int i ∧ i.natAbs.log2 < 1920 ∧ Q (.str (toString i)) μ1
theorem w_fmt (h : te2 ρ μ (dFmtK Q)) : dFmt te2 ρ μ Q := h
theorem w_fmtS {y : Str} (l : y.length ≤ sizeLine) (q : Q (.str y) μ) : dFmtK Q (.str y) μ := .inl ⟨y, rfl, l, q⟩
theorem w_fmtI {i : Int} (l : i.natAbs.log2 < 1920) (q : Q (.str (toString i)) μ) : dFmtK Q (.int i) μ := .inr ⟨i, rfl, l, q⟩
theorem e_fmt [Jx] (he : PE2 X e te te2) : PE2 X (.FormattedValue e (-1) none pos) (tFmt te) (dFmt te2) := ⟨pe_fmt he.pe, fun ρ μ Q2 q I σ H hA hS Q g => he.re ρ μ _ q I σ H hA hS _ fun d μ1 v I1 H1 q1 a1 k1 r1 => by
  rcases q1 with ⟨y, rfl, l, q1⟩ | ⟨i, rfl, l, q1⟩
  · exact .inl ⟨y, r1, l, g _ _ _ _ _ q1 a1 k1 rfl⟩
  · exact .inr ⟨i, r1, l, g _ _ _ _ _ q1 a1 k1 rfl⟩⟩
def dJs : List TE2 → Str → TE2
  | [], acc => fun _ μ Q => Q (.str acc) μ
  | t :: ts, acc => fun ρ μ Q => t ρ μ fun d μ1 => ∃ y, d = .str y ∧ (acc ++ y).length ≤ sizeLine ∧ dJs ts (acc ++ y) ρ μ1 Q
def dJsK (ts : List TE2) (acc : Str) (ρ : Env2) (Q : DK) : DK := fun d μ1 => ∃ y, d = .str y ∧ (acc ++ y).length ≤ sizeLine ∧ dJs ts (acc ++ y) ρ μ1 Q
theorem w_js0 {acc : Str} (q : Q (.str acc) μ) : dJs [] acc ρ μ Q := q
theorem w_js {t : TE2} {ts : List TE2} {acc : Str} (h : t ρ μ (dJsK ts acc ρ Q)) : dJs (t :: ts) acc ρ μ Q := h
theorem w_jsK {ts : List TE2} {acc y : Str} (l : (acc ++ y).length ≤ sizeLine) (q : dJs ts (acc ++ y) ρ μ Q) : dJsK ts acc ρ Q (.str y) μ := ⟨y, rfl, l, q⟩
inductive PJ2 [Jx] (X : Cx) : List Expr → List TE → List TE2 → Prop where
  | nil : PJ2 X [] [] []
  | cons {e : Expr} {t : TE} {t2 : TE2} {es : List Expr} {ts : List TE} {ts2 : List TE2} (h : PE2 X e t t2) (r : PJ2 X es ts ts2) : PJ2 X (e :: es) (t :: ts) (t2 :: ts2)
theorem PJ2.pj [Jx] {es : List Expr} {ts : List TE} {ts2 : List TE2} (h : PJ2 X es ts ts2) : PJ X es ts := by
  induction h with
  | nil => exact .nil
  | cons h r ih => exact .cons h.pe ih
theorem PJ2.re [Jx] {es : List Expr} {ts : List TE} {ts2 : List TE2} (h : PJ2 X es ts ts2) : ∀ (acc : Str) ρ μ Q2, dJs ts2 acc ρ μ Q2 → ∀ I σ H, At X.K μ I H → Slots X.K I ρ σ → ∀ Q : VK, Go X.K I μ H Q2 Q → tJs ts acc σ H fun out H1 => Q (.str out) H1 := by
  induction h with
  | nil => intro acc ρ μ Q2 q I σ H hA hS Q g; exact g _ _ _ _ _ q hA Kp.refl rfl
  | cons h r ih =>
    intro acc ρ μ Q2 q I σ H hA hS Q g
    refine h.re ρ μ _ q I σ H hA hS _ fun d μ1 v I1 H1 q1 a1 k1 r1 => ?_
    obtain ⟨y, rfl, l, q1⟩ := q1
    exact ⟨y, r1, l, ih _ ρ μ1 Q2 q1 I1 σ H1 a1 (hS.mono k1.ex) Q (g.past k1)⟩
theorem e_joined [Jx] {v1 v2 : Expr} {ts : List TE} {ts2 : List TE2} (h : PJ2 X (v1 :: v2 :: rest) ts ts2) : PE2 X (.JoinedStr (v1 :: v2 :: rest) pos) (fun σ H Q => tJs ts Str.empty σ H fun out H1 => Q (.str out) H1) (dJs ts2 Str.empty) :=
  ⟨pe_joined h.pj, fun ρ μ Q2 q I σ H hA hS Q g => h.re _ ρ μ Q2 q I σ H hA hS Q g⟩
theorem e_joined1 [Jx] (he : PE2 X e te te2) : PE2 X (.JoinedStr [e] pos) te te2 := ⟨pe_joined1 he.pe, he.re⟩
/-! ### of a list of truths, of whole numbers -/
def dAllB (g : List Bool → Bool) : DRC := fun xs μ Q => ∃ (y : D) (bs : List Bool), xs = [y] ∧ asL μ y = some (bs.map D.bl) ∧ Q (.bl (g bs)) μ
theorem w_allB {g : List Bool → Bool} {y : D} {bs : List Bool} (h : asL μ y = some (bs.map D.bl)) (q : Q (.bl (g bs)) μ) : dAllB g [y] μ Q := ⟨y, bs, rfl, h, q⟩
theorem rc_all [Jx] : RC K (rAll K) (dAllB fun bs => bs.all id) := fun xs μ Q2 q I H vs hA r Q k => by
  obtain ⟨y, bs, rfl, h, q⟩ := q
  obtain ⟨v, rfl, rv⟩ := r.one_inv
  obtain ⟨p, ws, rfl, h1, h2⟩ := asL_at hA rv h
  cases h2.bls_inv
  exact ⟨p, bs, rfl, SqL.of h1, k _ _ _ _ _ q hA Kp.refl rfl⟩
theorem rc_any [Jx] : RC K (rAny K) (dAllB fun bs => bs.any id) := fun xs μ Q2 q I H vs hA r Q k => by
  obtain ⟨y, bs, rfl, h, q⟩ := q
  obtain ⟨v, rfl, rv⟩ := r.one_inv
  obtain ⟨p, ws, rfl, h1, h2⟩ := asL_at hA rv h
  cases h2.bls_inv
  exact ⟨p, bs, rfl, SqL.of h1, k _ _ _ _ _ q hA Kp.refl rfl⟩
theorem e_all [Jx] (hc : X.calm = true) (hg : Gl X "all") (hm : X.mg "all" = none) (ha : PA2 X [e] tl tl2) (hv : bootBuiltins "all" = some (.builtin "all") := by decide +kernel) (he : starEach [e] X.env = (false, eval e X.env) :: starEach [] X.env := by rfl) :
    PE2 X (.Call (.Name "all" p) [e] [] pos) (tCB (rAll X.K) tl) (dCB (dAllB fun bs => bs.all id) tl2) := e_cb (cr_all hc) rc_all hg hm hv ha (he := he)
theorem e_any [Jx] (hc : X.calm = true) (hg : Gl X "any") (hm : X.mg "any" = none) (ha : PA2 X [e] tl tl2) (hv : bootBuiltins "any" = some (.builtin "any") := by decide +kernel) (he : starEach [e] X.env = (false, eval e X.env) :: starEach [] X.env := by rfl) :
    PE2 X (.Call (.Name "any" p) [e] [] pos) (tCB (rAny X.K) tl) (dCB (dAllB fun bs => bs.any id) tl2) := e_cb (cr_any hc) rc_any hg hm hv ha (he := he)
def dSumI : DRC := fun xs μ Q => ∃ (y : D) (ns : List Int), xs = [y] ∧ asL μ y = some (ns.map D.int) ∧ Q (.int ns.sum) μ
theorem w_sumI {y : D} {ns : List Int} (h : asL μ y = some (ns.map D.int)) (q : Q (.int ns.sum) μ) : dSumI [y] μ Q := ⟨y, ns, rfl, h, q⟩
theorem rc_sum [Jx] : RC K (rSum K) dSumI := fun xs μ Q2 q I H vs hA r Q k => by
  obtain ⟨y, ns, rfl, h, q⟩ := q
  obtain ⟨v, rfl, rv⟩ := r.one_inv
  obtain ⟨p, ws, rfl, h1, h2⟩ := asL_at hA rv h
  cases h2.ints_inv
  exact ⟨p, ns, rfl, SqL.of h1, k _ _ _ _ _ q hA Kp.refl rfl⟩
theorem e_sum [Jx] (hc : X.calm = true) (hg : Gl X "sum") (hm : X.mg "sum" = none) (ha : PA2 X [e] tl tl2) (hv : bootBuiltins "sum" = some (.builtin "sum") := by decide +kernel) (he : starEach [e] X.env = (false, eval e X.env) :: starEach [] X.env := by rfl) :
    PE2 X (.Call (.Name "sum" p) [e] [] pos) (tCB (rSum X.K) tl) (dCB dSumI tl2) := e_cb (cr_sum hc) rc_sum hg hm hv ha (he := he)
def dMaxL : DRC := fun xs μ Q => ∃ (y : D) (ns : List Int), xs = [y] ∧ asL μ y = some (ns.map D.int) ∧ 0 < ns.length ∧ ∀ m, m ∈ ns → (∀ y, y ∈ ns → y ≤ m) → Q (.int m) μ
theorem w_maxL {y : D} {ns : List Int} (h : asL μ y = some (ns.map D.int)) (l : 0 < ns.length) (q : ∀ m, m ∈ ns → (∀ y, y ∈ ns → y ≤ m) → Q (.int m) μ) : dMaxL [y] μ Q := ⟨y, ns, rfl, h, l, q⟩
theorem rc_max [Jx] : RC K (rMax K) dMaxL := fun xs μ Q2 q I H vs hA r Q k => by
  obtain ⟨y, ns, rfl, h, l, q⟩ := q
  obtain ⟨v, rfl, rv⟩ := r.one_inv
  obtain ⟨p, ws, rfl, h1, h2⟩ := asL_at hA rv h
  cases h2.ints_inv
  exact ⟨p, ns, rfl, SqL.of h1, l, fun m h3 h4 => k _ _ _ _ _ (q m h3 h4) hA Kp.refl rfl⟩
theorem e_maxL [Jx] (hc : X.calm = true) (hg : Gl X "max") (hm : X.mg "max" = none) (ha : PA2 X [e] tl tl2) (hv : bootBuiltins "max" = some (.builtin "max") := by decide +kernel) (he : starEach [e] X.env = (false, eval e X.env) :: starEach [] X.env := by rfl) :
    PE2 X (.Call (.Name "max" p) [e] [] pos) (tCB (rMax X.K) tl) (dCB dMaxL tl2) := e_cb (cr_max hc) rc_max hg hm hv ha (he := he)
/-! ### xs.index(text) -/
def dIndexS : DRM := fun x xs μ Q => ∃ (ys : List Str) (z : Str) (j : Nat), asL μ x = some (ys.map D.str) ∧ xs = [.str z] ∧ ys[j]? = some z ∧ (∀ m, m < j → ys[m]? ≠ some z) ∧ Q (.int (j : Nat)) μ
theorem w_indexS {x : D} {ys : List Str} {z : Str} (j : Nat) (h : asL μ x = some (ys.map D.str)) (h1 : ys[j]? = some z) (h2 : ∀ m, m < j → ys[m]? ≠ some z) (q : Q (.int (j : Nat)) μ) : dIndexS x [.str z] μ Q := ⟨ys, z, j, h, rfl, h1, h2, q⟩
theorem rm_indexS [Jx] : RM K (rIndex K) dIndexS := fun x xs μ Q2 q I H v vs hA rx rs Q k => by
  obtain ⟨ys, z, j, h, rfl, h1, h2, q⟩ := q
  obtain ⟨p, ws, rfl, e1, e2⟩ := asL_at hA rx h
  cases e2.strs_inv
  obtain ⟨w, rfl, rw'⟩ := rs.one_inv
  cases (show w = _ from rw')
  refine ⟨p, ys.map V.str, .str z, j, .str z, rfl, rfl, SqL.of e1, rfl, ?_, ?_, ?_, ?_, k _ _ _ _ _ q hA Kp.refl rfl⟩
  · rw [List.all_map]; exact List.all_eq_true.mpr fun _ _ => rfl
  · rw [List.getElem?_map, h1]; rfl
  · show (z == z) = true; exact beq_self_eq_true _
  · intro m z' hm e
    rw [List.getElem?_map] at e
    cases q2 : ys[m]? with
    | none => rw [q2] at e; cases e
    | some y =>
      rw [q2] at e
      cases e
      show (y == z) = false
      exact beq_eq_false_iff_ne.mpr fun z2 => h2 m hm (by rw [q2, z2])
theorem e_indexS [Jx] (ho : PE2 X o to to2) (ha : PA2 X [e] tl tl2) (hbase : attributeBase o "index" X.env (eval o X.env) = eval o X.env := by rfl)
    (hfew : ((backTo cpos (starEach [e] X.env)).all (fun x => !x.1) && (backToKw cpos (keywordEach [] X.env)).all (fun x => x.1.isSome) && decide ([e].length + ([] : List Keyword).length + (if ([] : List Keyword).isEmpty then 0 else 1) < 30)) = true := by rfl)
    (hline : (apos.endLine == cpos.line) = true := by rfl) (hs : starEach [e] X.env = (false, eval e X.env) :: starEach [] X.env := by rfl) : PE2 X (.Call (.Attribute o "index" apos) [e] [] cpos) (tBM X.K "list" (rIndex X.K) to tl) (dBM "list" dIndexS to2 tl2) :=
  e_bm PySem.F.plainAttrs_list PySem.F.slot_list_index PySem.F.type_list_index mt_index rm_indexS ho ha hbase hfew hline hs
/-! ### d.get(k), d.get(k, x) -/
def dGetD (to ti : TE2) (tx : TE2) : TE2 := fun ρ μ Q => to ρ μ fun x μ1 => (∃ a kvs, x = .adr a ∧ μ1 a = some (.dk kvs)) ∧ ti ρ μ1 fun y μ2 => tx ρ μ2 fun z μ3 => ∃ a kvs k, x = .adr a ∧ μ3 a = some (.dk kvs) ∧ y = kD k ∧ Q ((valD kvs k).getD z) μ3
end
end Y

set_option Elab.async false
set_option linter.all false
set_option maxRecDepth 100000
set_option maxHeartbeats 8000000
namespace Y
open PySem PySem.Spec PyProof.Rows L2
/-! sorted(set(xs)), xs a list of texts -/
abbrev Ent := Int × Value
abbrev Led (w : World) (t : SetTable) : Prop := w.params.followText "set-order" = true ∨ t.led = true
/-- an entry of a set of texts, its text -/
def TxE (w : World) (e : Ent) : Prop := ∃ k u, e = (hashStr w k, Value.str k u)
def txK (e : Ent) : Str := PyProof.Rows.strOf e.2
/-- the set at a, its members ks, each once -/
def TxS (w : World) (h : Heap) (a : Addr) (ks : List Str) : Prop := ∃ (o : Obj) (es : Array Ent) (ep : Nat) (t : SetTable),
  h.get? a = some o ∧ o.ExactSet ∧ o.data = .set es ep t ∧ (∀ e, e ∈ es.toList → TxE w e) ∧ (es.toList.map txK).Perm ks ∧ ks.Nodup ∧ es.size < scanBound ∧ t.fits es.size = true ∧ Ris t.place.toList ∧ Led w t
section
variable {P : Program} {w : World} {A : Around} {E : Value → Shared → Prop} {s : Shared} {a : Addr} {ks : List Str}
theorem TxE.els {l : List Ent} (g : ∀ e, e ∈ l → TxE w e) : ElemsOf (PySem.strKind P w) l := fun e he => by
  obtain ⟨k, u, rfl⟩ := g e he
  exact ⟨⟨k, strKind_is P w k u, rfl⟩, rfl⟩
theorem TxE.is {e : Ent} (g : TxE w e) (k : Str) : (PySem.strKind P w).is k e.2 = true ↔ txK e = k := by
  obtain ⟨k0, u, rfl⟩ := g
  show Value.isStrOf k (Value.str k0 u) = true ↔ k0 = k
  constructor
  · intro h
    obtain ⟨u', h'⟩ := Value.isStrOf_shape (x := k) h
    injection h' with h'
  · intro h
    subst h
    exact strKind_is P w k0 u
theorem TxS.move {h h' : Heap} (R : TxS w h a ks) (k : ∀ o, h.get? a = some o → h'.get? a = some o) : TxS w h' a ks := by
  obtain ⟨o, es, ep, t, ho, r⟩ := R
  exact ⟨o, es, ep, t, k o ho, r⟩
/-- what is stored, and laid anew where it is full -/
theorem tx_tail {g : Bool → Sem Unit} (hg : ∀ (b : Bool) (z : Shared) (N : Unit → Shared → Prop), N () z → wpAny (model P w) A (g b) N E z) {o : Obj} {es es1 : Array Ent} {ep : Nat} {t t2 : SetTable} {wd : Bool} {R : Option Bool → Shared → Prop}
    (ho : s.heap.get? a = some o) (hx : o.ExactSet) (hd : o.data = .set es ep t) (g1 : ∀ e, e ∈ es1.toList → TxE w e) (pk : (es1.toList.map txK).Perm ks) (nd : ks.Nodup) (hb : es1.size < scanBound) (hf : t2.fits es1.size = true) (hr : Ris t2.place.toList) (hl : Led w t2)
    (hR : ∀ h', Heap.SameBut a s.heap h' → TxS w h' a ks → R (some true) { s with heap := h' }) :
    wpAny (model P w) A (do
      storeSet a es1 t2
      if (!wd && t2.tooFull) = true then do
        g (relayAll t2 es1 (SetTable.grown es1.size)).2.2
        storeSet a (relayAll t2 es1 (SetTable.grown es1.size)).1 (relayAll t2 es1 (SetTable.grown es1.size)).2.1
        pure (some true)
      else pure (some true)) R E s := by
  have e1 := store_at (es' := es1) (t' := t2) ho hd; have u1 := Heap.SameBut.update s.heap a (Obj.putSet es1 t2)
  refine wpAny_bind (wpAny_storeSet_of ho hd ?_ (fits_of_scanBound hb)); split
  · have pm := relayAll_perm t2 es1 (SetTable.grown es1.size); have f3 := relayAll_fits t2 es1 (SetTable.grown es1.size); have r3 := relayAll_ris t2 es1 (SetTable.grown es1.size); have l3 := relayAll_led t2 es1 (SetTable.grown es1.size)
    generalize relayAll t2 es1 (SetTable.grown es1.size) = Z at pm f3 r3 l3 ⊢
    obtain ⟨es2, t3, gave⟩ := Z; dsimp only at pm f3 r3 l3 ⊢
    have z2 : es2.size = es1.size := by
      have := pm.length_eq; simpa using this
    have b2 : es2.size < scanBound := z2 ▸ hb
    refine wpAny_bind (hg _ _ _ (wpAny_bind (wpAny_storeSet_of e1 rfl ?_ (fits_of_scanBound b2))))
    refine wpAny_pure (hR _ (u1.trans (Heap.SameBut.update _ a _)) ⟨_, es2, _, t3, store_at (es' := es2) (t' := t3) e1 rfl, hx, rfl, fun e he => g1 e (pm.mem_iff.mp he), (pm.map txK).trans pk, nd, b2, f3, r3, hl.imp id fun z => by rw [l3]; exact z⟩)
  · exact wpAny_pure (hR _ u1 ⟨_, es1, _, t2, e1, hx, rfl, g1, pk, nd, hb, hf, hr, hl⟩)
/-- one more, or one that is there -/
theorem tx_add {k : Str} {u : Tok} {Q : Bool → Shared → Prop} (R : TxS w s.heap a ks) (room : ks.length + 1 < scanBound)
    (hQ : ∀ (b : Bool) (h' : Heap), Heap.SameBut a s.heap h' → TxS w h' a (if k ∈ ks then ks else k :: ks) → Q b { s with heap := h' }) : wpAny (model P w) A (setAddHashed a (.str k u) ((PySem.strKind P w).hash k)) Q E s := by
  obtain ⟨o, es, ep, t, ho, hx, hd, g, pk, nd, hb, hf, hr, hl⟩ := R
  have hk : (PySem.strKind P w).is k (.str k u) = true := strKind_is P w k u
  have hc : (Value.str k u).scannable = true := rfl
  have he : ElemsOf (PySem.strKind P w) es.toList := TxE.els g
  have mem : k ∈ ks ↔ ∃ e ∈ es.toList, (PySem.strKind P w).is k e.2 = true := by
    rw [← pk.mem_iff, List.mem_map]
    exact ⟨fun ⟨e, h1, h2⟩ => ⟨e, h1, (TxE.is (g e h1) k).2 h2⟩, fun ⟨e, h1, h2⟩ => ⟨e, h1, (TxE.is (g e h1) k).1 h2⟩⟩
  unfold setAddHashed setAddHashedIn
  refine wpAny_holding (wpAny_bind (wpAny_setState_of ho hd hf ?_)); dsimp only
  rw [byScan_of hc hb he]; simp only [↓reduceIte]
  unfold setAddByScan
  refine wpAny_bind (wpAny_bind (wpAny_rule (wpAny_bind (wpAny_setScan_of hk ho hd hf he ?_))))
  cases q : List.findIdx? (fun e => (PySem.strKind P w).is k e.2) es.toList with
  | some j =>
    dsimp only
    obtain ⟨hj, pj, _⟩ := List.findIdx?_eq_some_iff_getElem.mp q
    have hin : k ∈ ks := mem.2 ⟨es.toList[j], List.getElem_mem hj, pj⟩
    refine wpAny_pure (wpAny_pure (hQ _ s.heap (Heap.SameBut.refl a s.heap) ?_))
    rw [if_pos hin]
    exact ⟨o, es, ep, t, ho, hx, hd, g, pk, nd, hb, hf, hr, hl⟩
  | none =>
    dsimp only
    have hout : k ∉ ks := fun z => by
      obtain ⟨e, h1, h2⟩ := mem.1 z
      have c := List.findIdx?_eq_none_iff.mp q e h1
      rw [h2] at c; cases c
    have gw : ∀ (b : Bool) {z : Shared} {N : Unit → Shared → Prop}, N () z → wpAny (model P w) A (match b with | true => rule "set.scan.the-table-gave-way" | false => pure ()) N E z := fun b z N n => by
      cases b
      · exact wpAny_pure n
      · exact wpAny_rule n
    have pm := layNew_perm t es ((PySem.strKind P w).hash k) (.str k u); have f1 := layNew_fits t es ((PySem.strKind P w).hash k) (.str k u)
    have r1 := layNew_ris t es ((PySem.strKind P w).hash k) (.str k u) hr; have l1 := layNew_led t es ((PySem.strKind P w).hash k) (.str k u)
    generalize layNew t es ((PySem.strKind P w).hash k) (.str k u) = Z at pm f1 r1 l1 ⊢
    obtain ⟨es1, t1, wd, gave⟩ := Z; dsimp only at pm f1 r1 l1 ⊢
    rw [Array.toList_push] at pm
    have pc : es1.toList.Perm (((PySem.strKind P w).hash k, Value.str k u) :: es.toList) := pm.trans (List.perm_append_singleton _ _)
    have g1 : ∀ e, e ∈ es1.toList → TxE w e := fun e h1 => by
      rcases List.mem_cons.mp (pc.mem_iff.mp h1) with z | z
      · exact ⟨k, u, z⟩
      · exact g e z
    have pk1 : (es1.toList.map txK).Perm (k :: ks) := (pc.map txK).trans (pk.cons k)
    have nd1 : (k :: ks).Nodup := List.nodup_cons.mpr ⟨hout, nd⟩
    have z1 : es1.size = ks.length + 1 := by
      have := pk1.length_eq; simpa using this
    have b1 : es1.size < scanBound := z1 ▸ room
    have led1 : Led w t1 := hl.imp id fun z => by rw [l1]; exact z
    have fin : ∀ h', Heap.SameBut a s.heap h' → TxS w h' a (k :: ks) → Q true { s with heap := h' } := fun h' sb r => hQ true h' sb (by rw [if_neg hout]; exact r)
    refine wpAny_bind (gw _ ?_); split
    · refine wpAny_bind ?_
      rw [hashByValue_scannable 8 hc]
      refine wpAny_pure (tx_tail (ks := k :: ks) ?_ ho hx hd g1 pk1 nd1 b1 ?_ ?_ ?_ fun h' sb r => by dsimp only; exact wpAny_pure (fin h' sb r))
      · intro b z N n; cases b <;> first | exact wpAny_pure n | exact wpAny_rule n
      · first | (split <;> first | exact f1 | exact SetTable.fits_plain_off f1) | exact f1
      · first | (split <;> exact r1) | exact r1
      · first | (split <;> exact led1) | exact led1
    · refine wpAny_bind (wpAny_pure ?_); simp only [↓reduceIte]
      refine tx_tail (ks := k :: ks) ?_ ho hx hd g1 pk1 nd1 b1 f1 r1 led1 fun h' sb r => by dsimp only; exact wpAny_pure (fin h' sb r)
      intro b z N n; cases b <;> first | exact wpAny_pure n | exact wpAny_rule n
end
/-- each once -/
def dd (ks : List Str) (k : Str) : List Str := if k ∈ ks then ks else k :: ks
theorem dd_mem {ks : List Str} {k x : Str} : x ∈ dd ks k ↔ x = k ∨ x ∈ ks := by
  unfold dd
  split
  · exact ⟨.inr, fun h => h.elim (fun e => by rw [e]; assumption) id⟩
  · exact List.mem_cons
theorem dd_len {ks : List Str} {k : Str} : (dd ks k).length ≤ ks.length + 1 := by
  unfold dd
  split
  · exact Nat.le_succ _
  · exact Nat.le_refl _
theorem dds_mem {x : Str} : ∀ (xs ks : List Str), x ∈ xs.foldl dd ks ↔ x ∈ xs ∨ x ∈ ks
  | [], ks => by simp
  | k :: xs, ks => by
    rw [List.foldl_cons, dds_mem xs, dd_mem, List.mem_cons]
    exact ⟨fun h => h.elim (fun a => .inl (.inr a)) fun h => h.elim (fun a => .inl (.inl a)) .inr, fun h => h.elim (fun h => h.elim (fun a => .inr (.inl a)) .inl) fun a => .inr (.inr a)⟩
theorem dds_len : ∀ (xs ks : List Str), (xs.foldl dd ks).length ≤ xs.length + ks.length
  | [], ks => by simp
  | k :: xs, ks => by
    rw [List.foldl_cons, List.length_cons]
    have h1 := dds_len xs (dd ks k); have h2 := @dd_len ks k
    omega
section
variable {P : Program} {w : World} {A : Around} {E : Value → Shared → Prop} {s : Shared}
theorem tx_fresh {h : Heap} {a : Addr} (ho : h.get? a = some { cls := .type "set", dict := none, data := .set #[] 0 (.fresh 0 0 (!w.params.followText "set-order")) }) : TxS w h a [] := by
  refine ⟨_, #[], 0, _, ho, ⟨rfl, rfl, rfl⟩, rfl, fun e z => by simp at z, by simp, List.nodup_nil, by decide, rfl, List.Pairwise.nil, ?_⟩
  show _ ∨ (!w.params.followText "set-order") = true
  cases q : w.params.followText "set-order"
  · exact .inr rfl
  · exact .inl rfl
/-- the loop that takes each of a row in -/
theorem tx_loop {J S : Addr} {fp wr : List Addr} {G : Array GenState → Array GenState → Prop} {n : Nat} {Pv : Nat → Value → Prop} {St : Nat → Shared → Prop} {R : Result → Shared → Prop} (W : WalksS P w A.in1 J fp wr G n Pv St) (off : S ∉ fp)
    (xs : List Str) (hn : n = xs.length) (hb : xs.length + 1 < scanBound) (hv : ∀ i v, Pv i v → ∃ k t, xs[i]? = some k ∧ v = .str k t) :
    ∀ (m i : Nat) (s : Shared), n - i = m → i ≤ n → St i s → TxS w s.heap S ((xs.take i).foldl dd []) → (∀ s', Moved (S :: wr) G s s' → TxS w s'.heap S (xs.foldl dd []) → R (.ok (.ret .none)) s') →
      codeAny (model P w) A (.builtin "set.update.loop" ⟨[.ref S, .ref J], []⟩) R s := by
  have offW : S ∉ wr := fun h => off (W.sub _ h)
  have more : ∀ b, b ∈ wr → b ∈ S :: wr := fun b h => List.mem_cons_of_mem _ h
  intro m; induction m with
  | zero =>
    intro i s h1 h2 st hS hR
    obtain rfl : i = n := by omega
    refine codeAny_builtin F.entry_set_update_loop ?_; rw [Around.under_plainId F.plain_set_update_loop _]
    show wpAny _ A.in1 (pyNext (.ref J) >>= _) _ _ s
    refine wpAny_bind (W.done s _ _ st fun s' hm => ?_); show wpAny _ A.in1 (ret Value.none) _ _ s'
    rw [List.take_of_length_le (by omega)] at hS
    exact wpAny_pure (hR s' (hm.mono more) (hS.move fun o e => hm.heap S o offW e))
  | succ m ih =>
    intro i s h1 h2 st hS hR
    have lt : i < n := by omega
    refine codeAny_builtin F.entry_set_update_loop ?_; rw [Around.under_plainId F.plain_set_update_loop _]
    show wpAny _ A.in1 (pyNext (.ref J) >>= _) _ _ s
    refine wpAny_bind (W.item i s _ _ lt st fun v s' hP st' hm => ?_)
    obtain ⟨z, t, hz, rfl⟩ := hv i v hP
    have hS' : TxS w s'.heap S ((xs.take i).foldl dd []) := hS.move fun o e => hm.heap S o offW e
    show wpAny _ A.in1 (holding [Value.str z t] (setAdd S (.str z t)) >>= _) _ _ s'
    refine wpAny_bind (wpAny_holding ?_); unfold setAdd
    refine wpAny_holding (wpAny_bind ((PySem.strKind P w).pyHash (k := z) (strKind_is _ _ _ _) ?_))
    have len : ((xs.take i).foldl dd []).length ≤ i := by
      have := dds_len (xs.take i) []; rw [List.length_nil, List.length_take] at this; omega
    refine tx_add (s := { s' with toks := s'.toks + 1 }) hS' (by omega) fun b h' sb hS2 => ?_
    have hS3 : TxS w h' S ((xs.take (i + 1)).foldl dd []) := by
      rw [List.take_add_one, hz, List.foldl_append]
      exact hS2
    refine wpAny_pure ⟨plainId_quiet F.plain_set_update_loop _, ih (i + 1) _ (by omega) lt (W.frame _ s' _ _ st' (Nat.le_succ _) fun c hc o e => ?_) hS3 fun s2 hm2 hS4 => ?_⟩
    · rw [sb.2 c (fun h : c = S => off (by rw [← h]; exact hc))]; exact e
    · refine hR s2 (Moved.trans W.gtrans ((hm.mono more).then_heap (Nat.le_succ _) fun c o hc e => ?_) hm2) hS4
      rw [sb.2 c (fun h : c = S => hc (by rw [h]; exact List.mem_cons_self))]; exact e
/-- set(xs) -/
theorem tx_set {l : Addr} {its : Array Value} {xs : List Str} {Q : Value → Shared → Prop} (hh : A.handled = none) (hl : s.heap.IsList l its) (hi : StrsAre its.toList xs) (hb : xs.length + 1 < scanBound)
    (h : ∀ (h' : Heap) (tk : Nat), TxS w h' s.heap.objs.size (xs.foldl dd []) → (∀ b o, s.heap.get? b = some o → h'.get? b = some o) → Q (.ref s.heap.objs.size) { s with heap := h', toks := tk }) :
    wpAny (model P w) A (call (.type "set") [.ref l]) Q E s := by
  obtain ⟨c, tl, hmro⟩ := F.called_set.mro
  have hmade := F.called_set.made; have hsub := F.called_set.sub; have c1 := F.called_set.notType; have c2 := F.called_set.canCreate; have c3 := F.typeCall_set_1 (.ref l)
  refine wpAny_call (codeAny_of_tree ?_); show wpAny _ _ (callAny (.type "set") _) _ _ _
  refine wpAny_pure ⟨Code.quiet_builtin _ (by decide +kernel), codeAny_builtin F.entry_type_call ?_⟩; rw [Around.under_plain (weight_type_call_type "set" [.ref l] []) rfl]
  repeat (any_goals (first | assumption | wp_step))
  let new : Obj := { cls := .type "set", dict := none, data := .set #[] 0 (.fresh 0 0 (!w.params.followText "set-order")) }
  refine codeAny_mono (code_set_led1 (.ref l) (E := E) (Q₁ := fun obj z => obj = .ref s.heap.objs.size ∧ z = { s with heap := s.heap.push new }) ⟨rfl, rfl⟩) fun r z hr => ?_
  cases r with
  | error e => exact hr
  | ok fl =>
    cases fl with
    | ret obj =>
      obtain ⟨rfl, rfl⟩ := hr
      have nS : (s.heap.push new).get? s.heap.objs.size = some new := Heap.get?_push_size _ rfl
      have hT : Shared.TypeIs { s with heap := s.heap.push new } (.ref s.heap.objs.size) "set" := ⟨_, nS, rfl⟩
      have d1 := F.called_set.init.lookup; have d2 := F.called_set.init.bind (.ref s.heap.objs.size)
      repeat (any_goals (first | assumption | wp_step))
      refine codeAny_mono (codeAny_call_builtin (R := wants (fun r z2 => r = .none ∧ ∃ h' tk, z2 = { s with heap := h', toks := tk } ∧ TxS w h' s.heap.objs.size (xs.foldl dd []) ∧ (∀ b o, s.heap.get? b = some o → h'.get? b = some o)) E) F.called_set.init.plain F.entry_set_init (check_set_init_1 hT ?_)) fun r2 z2 hr2 => ?_
      · obtain ⟨⟨oc, od, oda, osl⟩, hol, hcl, nl, hdl⟩ := hl
        simp only at hcl hdl; subst hcl hdl
        have hol' : (s.heap.push new).get? l = some { cls := .type "list", dict := od, data := .seq its nl, slots := osl } := Heap.get?_push_of_some _ hol
        have s1 := F.sub_list_set; have s2 := F.sub_list_frozenset; have s3 : (Value.type "list" == Value.type "dict") = false := by decide
        have l1 : (s.heap.push new).IsList l its := ⟨_, hol', rfl, nl, rfl⟩
        unfold Builtin.«set.__init__» noKeywords Builtin.Frozenset.updateFrom
        generalize hPI : pyIter = PI
        wp_walk
        subst hPI
        refine wpAny_pyIter_list l1 (wpAny_bind (wpAny_runValue ?_))
        have lS : l < s.heap.objs.size := Heap.lt_size hol
        have hA3 : A.in1.in1.in1.handled = none := by simp [hh]
        have ne : l ≠ (s.heap.push new).objs.size := by rw [Heap.size_push]; exact Nat.ne_of_lt (Nat.lt_succ_of_lt lS)
        have off : s.heap.objs.size ∉ [(s.heap.push new).objs.size, l] := by
          rw [Heap.size_push]; intro h
          rcases List.mem_cons.mp h with h | h
          · exact absurd h (Nat.ne_of_lt (Nat.lt_succ_self _))
          · exact absurd (List.mem_singleton.mp h) (Nat.ne_of_gt lS)
        have sz : its.size = xs.length := by rw [← StrsAre.len_eq hi, Array.length_toList]
        have val : ∀ (i : Nat) (v : Value), its[i]? = some v → ∃ k t, xs[i]? = some k ∧ v = .str k t := fun i v hv => by
          have lt : i < xs.length := by rw [← sz]; exact (Array.getElem?_eq_some_iff.mp hv).1
          obtain ⟨t, e⟩ := SS.strs_at hi i v (by rw [Array.getElem?_toList]; exact hv)
          exact ⟨_, t, by rw [List.getElem?_eq_getElem lt, List.getD_eq_getElem?_getD, List.getElem?_eq_getElem lt]; rfl, e⟩
        refine tx_loop ((Walks.list hA3 _ l ne its).toS) off xs sz hb val (its.size - 0) 0 _ (by omega) (Nat.zero_le _) ⟨⟨_, Heap.get?_push_size _ rfl, rfl, rfl⟩, l1.push _⟩ (tx_fresh (Heap.get?_push_of_some _ nS)) fun z hm hS => ?_
        obtain ⟨h', g2, d', tk', os'⟩ := z
        obtain rfl : g2 = s.gens := hm.gens
        obtain rfl : d' = s.drawn := hm.drawn
        obtain rfl : os' = s.os := hm.os
        show wpAny _ _ _ _ _ _
        refine wpAny_pure ?_; show wpAny _ _ (ret Value.none) _ _ _
        refine wpAny_pure ⟨rfl, h', tk', rfl, hS, fun b o e => ?_⟩
        have hlt := Heap.lt_size e
        refine hm.heap b o (fun z => ?_) (Heap.get?_push_of_some _ (Heap.get?_push_of_some _ e))
        rcases List.mem_cons.mp z with z | z
        · exact absurd z (Nat.ne_of_lt hlt)
        · have z2 := List.mem_singleton.mp z; rw [Heap.size_push] at z2; exact absurd z2 (Nat.ne_of_lt (Nat.lt_succ_of_lt hlt))
      · cases r2 with
        | error e => exact hr2
        | ok fl2 =>
          cases fl2 with
          | ret r =>
            obtain ⟨rfl, h', tk, rfl, hS', hk'⟩ := hr2
            repeat (any_goals (first | assumption | wp_step))
            exact h _ _ hS' hk'
          | _ => exact hr2.elim
    | _ => exact hr.elim
end
end Y

set_option Elab.async false
set_option linter.all false
set_option maxRecDepth 100000
set_option maxHeartbeats 8000000
namespace Y
open PySem PySem.Spec PyProof.Rows L2
/-! the rising list of some texts, each once -/
def ltS (x y : Str) : Bool := ltCps x.cps.toList y.cps.toList
theorem ltS_iff {x y : Str} : ltS x y = true ↔ x.cps.toList < y.cps.toList := by
  unfold ltS; rw [ltCps_eq]; exact decide_eq_true_iff
theorem str_ext {x y : Str} (h : x.cps.toList = y.cps.toList) : x = y := by
  obtain ⟨⟨a⟩⟩ := x; obtain ⟨⟨b⟩⟩ := y
  cases (show a = b from h); rfl
theorem ltS_irr (x : Str) : ltS x x = false := Bool.eq_false_iff.mpr fun h => List.lt_irrefl _ (ltS_iff.mp h)
theorem ltS_trans {x y z : Str} (h : ltS x y = true) (h2 : ltS y z = true) : ltS x z = true := ltS_iff.mpr (List.lt_trans (ltS_iff.mp h) (ltS_iff.mp h2))
theorem ltS_total {x y : Str} (h : ltS x y = false) (ne : x ≠ y) : ltS y x = true := by
  refine ltS_iff.mpr ?_
  have h1 : ¬ x.cps.toList < y.cps.toList := fun z => by rw [ltS_iff.mpr z] at h; cases h
  have h2 : y.cps.toList ≤ x.cps.toList := List.not_lt.mp h1
  exact Std.lt_of_le_of_ne h2 fun z => ne (str_ext z.symm)
def insU (x : Str) : List Str → List Str
  | [] => [x]
  | y :: r => if ltS x y then x :: y :: r else if x = y then y :: r else y :: insU x r
def uqs : List Str → List Str
  | [] => []
  | x :: r => insU x (uqs r)
def Rsg (l : List Str) : Prop := l.Pairwise fun x y => ltS x y = true
theorem insU_mem {x z : Str} : ∀ {l : List Str}, z ∈ insU x l ↔ z = x ∨ z ∈ l
  | [] => by simp [insU]
  | y :: r => by
    unfold insU
    split
    · exact List.mem_cons
    · split
      · rename_i e
        rw [e]; exact ⟨.inr, fun h => h.elim (fun e => e ▸ List.mem_cons_self) id⟩
      · rw [List.mem_cons, insU_mem, List.mem_cons]
        exact ⟨fun h => h.elim (fun a => .inr (.inl a)) fun h => h.elim .inl fun a => .inr (.inr a), fun h => h.elim (fun a => .inr (.inl a)) fun h => h.elim .inl fun a => .inr (.inr a)⟩
theorem insU_rsg {x : Str} : ∀ {l : List Str}, Rsg l → Rsg (insU x l)
  | [], _ => List.pairwise_singleton _ _
  | y :: r, h => by
    obtain ⟨h1, h2⟩ := List.pairwise_cons.mp h
    unfold insU
    split
    · rename_i e
      exact List.pairwise_cons.mpr ⟨fun z hz => (List.mem_cons.mp hz).elim (fun q => q ▸ e) fun q => ltS_trans e (h1 z q), h⟩
    · rename_i e
      split
      · exact h
      · rename_i ne
        refine List.pairwise_cons.mpr ⟨fun z hz => (insU_mem.mp hz).elim (fun q => ?_) (h1 z), insU_rsg h2⟩
        rw [q]; exact ltS_total (Bool.eq_false_iff.mpr e) ne
theorem uqs_mem {z : Str} : ∀ {l : List Str}, z ∈ uqs l ↔ z ∈ l
  | [] => Iff.rfl
  | x :: r => by
    show z ∈ insU x (uqs r) ↔ _
    rw [insU_mem, uqs_mem, List.mem_cons]
theorem uqs_rsg : ∀ {l : List Str}, Rsg (uqs l)
  | [] => List.Pairwise.nil
  | x :: r => insU_rsg uqs_rsg
theorem rsg_eq : ∀ {l m : List Str}, Rsg l → Rsg m → (∀ z, z ∈ l ↔ z ∈ m) → l = m
  | [], [], _, _, _ => rfl
  | [], y :: m, _, _, h => by have := (h y).2 List.mem_cons_self; cases this
  | x :: l, [], _, _, h => by have := (h x).1 List.mem_cons_self; cases this
  | x :: l, y :: m, h1, h2, h => by
    obtain ⟨a1, a2⟩ := List.pairwise_cons.mp h1
    obtain ⟨b1, b2⟩ := List.pairwise_cons.mp h2
    have e : x = y := by
      rcases List.mem_cons.mp ((h x).1 List.mem_cons_self) with q | q
      · exact q
      · rcases List.mem_cons.mp ((h y).2 List.mem_cons_self) with q2 | q2
        · exact q2.symm
        · have := ltS_trans (b1 x q) (a1 y q2)
          rw [ltS_irr] at this; cases this
    subst e
    congr 1
    refine rsg_eq a2 b2 fun z => ⟨fun hz => ?_, fun hz => ?_⟩
    · rcases List.mem_cons.mp ((h z).1 (List.mem_cons_of_mem _ hz)) with q | q
      · subst q; have := a1 z hz; rw [ltS_irr] at this; cases this
      · exact q
    · rcases List.mem_cons.mp ((h z).2 (List.mem_cons_of_mem _ hz)) with q | q
      · subst q; have := b1 z hz; rw [ltS_irr] at this; cases this
      · exact q
/-- rising, none twice -/
theorem srt_rsg : ∀ {l : List Str}, sortedS l = true → l.Nodup → Rsg l
  | [], _, _ => List.Pairwise.nil
  | x :: r, h, d => by
    have go : ∀ (r : List Str) (x : Str), risingS x r = true → (x :: r).Nodup → Rsg (x :: r) := fun r => by
      induction r with
      | nil => intro x _ _; exact List.pairwise_singleton _ _
      | cons y r ih =>
        intro x h d
        obtain ⟨h1, h2⟩ := Bool.and_eq_true_iff.mp (show (!ltS y x && risingS y r) = true from h)
        obtain ⟨d1, d2⟩ := List.nodup_cons.mp d
        have hr := ih y h2 d2
        have xy : ltS x y = true := ltS_total (by simpa using h1) fun e => d1 (e ▸ List.mem_cons_self)
        exact List.pairwise_cons.mpr ⟨fun z hz => (List.mem_cons.mp hz).elim (fun q => q ▸ xy) fun q => ltS_trans xy ((List.pairwise_cons.mp hr).1 z q), hr⟩
    exact go r x h d
theorem dds_nodup : ∀ {xs ks : List Str}, ks.Nodup → (xs.foldl dd ks).Nodup
  | [], ks, h => h
  | k :: xs, ks, h => by
    rw [List.foldl_cons]
    refine dds_nodup ?_
    unfold dd
    split
    · exact h
    · rename_i hk
      exact List.nodup_cons.mpr ⟨hk, h⟩
theorem uqs_of {xs ss : List Str} (p : ss.Perm (xs.foldl dd [])) (h : sortedS ss = true) : ss = uqs xs :=
  rsg_eq (srt_rsg h (p.nodup_iff.mpr (dds_nodup List.nodup_nil))) uqs_rsg fun z => by rw [p.mem_iff, dds_mem, uqs_mem]; simp
theorem uqs_len {l : List Str} : (uqs l).length ≤ l.length := by
  induction l with
  | nil => exact Nat.le_refl _
  | cons x r ih =>
    have go : ∀ l : List Str, (insU x l).length ≤ l.length + 1 := fun l => by
      induction l with
      | nil => exact Nat.le_refl _
      | cons y r ih2 =>
        unfold insU
        split
        · exact Nat.le_refl _
        · split
          · exact Nat.le_succ _
          · exact Nat.succ_le_succ ih2
    exact Nat.le_trans (go _) (Nat.succ_le_succ ih)
section
variable {P : Program} {w : World} {A : Around} {E : Value → Shared → Prop} {s : Shared} {a : Addr} {ks : List Str}
/-- sorted(s), s a set of texts -/
theorem tx_sorted {Q : Value → Shared → Prop} (R : TxS w s.heap a ks) (hh : A.handled = none) (h64 : ks.length < 64)
    (hQ : ∀ (z : Shared) (p : Addr) (out : Array Value) (c : Nat) (ss : List Str), (∀ b o, s.heap.get? b = some o → z.heap.get? b = some o) → z.gens = s.gens → z.os = s.os → s.heap.objs.size ≤ p → z.heap.get? p = some (seqObj "list" out c) → StrsAre out.toList ss → ss.Perm ks → sortedS ss = true → Q (.ref p) z) :
    wpAny (model P w) A (call (.builtin "sorted") [.ref a]) Q E s := by
  obtain ⟨o, es, ep, t, ho, hx, hd, g, pk, nd, hb, hf, hr, hl⟩ := R
  refine Calls.call_function_entry kind_sorted plain_sorted entry_sorted (args_sorted1 _) ?_; unfold Builtin.«sorted»
  refine wpAny_bind (m := checkCount "sorted" 1 1 _) (wpAny_pure (wpAny_bind (collect_set (A := A.in1) hh ⟨o, ho, hx.1, hd⟩ hf hb hr hl fun z vs k1 hz g1 o1 pm => ?_)))
  have pz : (vs.map PyProof.Rows.strOf).Perm (es.toList.map txK) := by
    have q := pm.map PyProof.Rows.strOf
    rw [List.map_map] at q
    exact q
  have hI : StrsAre vs (vs.map PyProof.Rows.strOf) := strsAre_map vs fun v hv => by
    obtain ⟨e, he, q⟩ := List.mem_map.mp (pm.mem_iff.mp hv)
    obtain ⟨k, u, rfl⟩ := g e he
    exact ⟨k, u, q.symm⟩
  have hn : vs.length < 64 := by
    have := (pz.trans pk).length_eq; rw [List.length_map] at this; omega
  refine wpAny_bind (wpAny_newList ?_ (by rw [sizeLine_eq]; omega))
  have oL : (z.heap.push (seqObj "list" vs.toArray 0)).get? z.heap.objs.size = some (seqObj "list" vs.toArray 0) := Heap.get?_push_size _ rfl
  refine wpAny_bind (wpAny_holding (wpAny_call_entry slot_list_sort ⟨_, oL, rfl⟩ entry_list_sort (list_sort_treeK strKind_oneLt oL hI.keysOf (fun v1 v2 r e => keyKind_strs (by rw [← e]; exact hI)) hn fun st' q1 q2 => ⟨_, rfl, ?_⟩) (args_list_sort _)))
  obtain ⟨ss, b1, b2, b3⟩ := sorted_out_str hI q1 q2
  obtain ⟨c, hc⟩ := sortedHeap_at (vs := vs) (out := (arrOf st').map (·.2)) oL
  refine wpAny_pure ⟨_, rfl, hQ _ z.heap.objs.size _ c ss (fun b u e => ?_) g1 o1 hz hc b1 (b2.trans (pz.trans pk)) b3⟩
  have q := k1 b u e
  have lt := Heap.lt_size q
  show (sortedHeap (z.heap.push (seqObj "list" vs.toArray 0)) z.heap.objs.size vs _).get? b = some u
  rw [sortedHeap_old (Nat.ne_of_lt lt) (by rw [size_push']; exact Nat.lt_succ_of_lt lt)]; exact Heap.get?_push_of_some _ q
end
section
variable {X : Cx} {K : PySem.W.Frag} {a : Expr} {ta : TE} {ta2 : TE2} {p p2 q pos : Pos} {ρ : Env2} {μ : Mu} {Q : DK}
/-- sorted(set(xs)) -/
def tSS (K : PySem.W.Frag) (ta : TE) : TE := fun σ H Q => ta σ H fun x H1 => ∃ (l : Addr) (xs : List Str), x = .ref l ∧ SqL K H1 l (xs.map V.str) ∧ xs.length < 64 ∧ ∀ p : Addr, H1 p = none → Q (.ref p) (upd H1 p (.lst ((uqs xs).map V.str)))
theorem pe_sortedSet (hc : X.calm = true) (hg : Gl X "sorted") (hm : X.mg "sorted" = none) (hg2 : Gl X "set") (hm2 : X.mg "set" = none) (ha : PE X a ta) (hv : bootBuiltins "sorted" = some (.builtin "sorted") := by decide +kernel) (hv2 : bootBuiltins "set" = some (.type "set") := by decide +kernel)
    (na : starEach [a] X.env = (false, eval a X.env) :: starEach [] X.env := by rfl) : PE X (.Call (.Name "sorted" p) [.Call (.Name "set" p2) [a] [] q] [] pos) (tSS X.K ta) := by
  refine ⟨fun pins s σ H Q I h => ?_⟩
  refine Call_ (ld_blt I hg hm hv ?_)
  refine PyProof.Rows.callWith_builtin1 (PyProof.Rows.args_cons ?_ rfl) rfl rfl
  refine Call_ (ld_blt I hg2 hm2 hv2 ?_)
  refine PyProof.Rows.callWith_type1 (PyProof.Rows.args_cons (thn (ha.run pins s σ H _ I h) fun v s1 ⟨x, H1, I1, r1, q1⟩ => PyProof.Rows.args_nil ?_) na) na rfl
  obtain ⟨l, xs, rfl, hq, h64, q1⟩ := q1
  cases r1
  obtain ⟨its, r, pl, hz⟩ := I1.list hq
  have hA := I1.ok.hd hc
  refine tx_set hA pl.isList (by simpa using strsAre_of r) (by unfold scanBound; omega) fun h' tk R k1 => PyProof.Rows.args_nil ?_
  have len : (xs.foldl dd []).length < 64 := by
    have := dds_len xs []; rw [List.length_nil] at this; omega
  refine tx_sorted (s := { s1 with heap := h', toks := tk }) R hA len fun z pp out c ss k g o hp hgt hi pm hs => ?_
  obtain rfl : ss = uqs xs := uqs_of pm hs
  have kk : ∀ b u, s1.heap.get? b = some u → z.heap.get? b = some u := fun b u e => k b u (k1 b u e)
  have hp1 : s1.heap.objs.size ≤ pp := by
    have hlt : s1.heap.objs.size < h'.objs.size := by
      obtain ⟨o, _, _, _, ho, _⟩ := R
      exact Heap.lt_size ho
    exact Nat.le_trans (Nat.le_of_lt hlt) hp
  have hn : H1 pp = none := I1.hok.fresh hp1
  have hlen : ((uqs xs).map V.str).length ≤ sizeLine := by
    have := @uqs_len xs
    rw [List.length_map, sizeLine_eq]; omega
  have J : Inv X pins σ (upd H1 pp (.lst ((uqs xs).map V.str))) { s1 with heap := z.heap, gens := z.gens, drawn := z.drawn, toks := z.toks } :=
    I1.call (ch := []) (Un.laid kk hp1 hn) (I1.hok.laid kk hp1 ⟨hlen, out.toList, c, vals_of_strs hi, hgt⟩) (by rw [g]; exact I1.bare) (fun _ z => nomatch z)
  have e : z = { s1 with heap := z.heap, gens := z.gens, drawn := z.drawn, toks := z.toks } := by
    obtain ⟨zh, zg, zd, zt, zo⟩ := z
    cases (show zo = s1.os from o); rfl
  rw [e]
  exact ⟨.ref pp, _, J, rfl, q1 pp hn⟩
def dSS (ta2 : TE2) : TE2 := fun ρ μ Q => ta2 ρ μ fun x μ1 => ∃ xs : List Str, asL μ1 x = some (xs.map D.str) ∧ xs.length < 64 ∧ ∀ p, μ1 p = none → Q (.adr p) (mup μ1 p (.lst ((uqs xs).map D.str)))
def dSSK (Q : DK) : DK := fun x μ1 => ∃ xs : List Str, asL μ1 x = some (xs.map D.str) ∧ xs.length < 64 ∧ ∀ p, μ1 p = none → Q (.adr p) (mup μ1 p (.lst ((uqs xs).map D.str)))
theorem w_ss (h : ta2 ρ μ (dSSK Q)) : dSS ta2 ρ μ Q := h
theorem w_ssK {x : D} {xs : List Str} (h : asL μ x = some (xs.map D.str)) (l : xs.length < 64) (q : ∀ p, μ p = none → Q (.adr p) (mup μ p (.lst ((uqs xs).map D.str)))) : dSSK Q x μ := ⟨xs, h, l, q⟩
theorem e_sortedSet [Jx] (hc : X.calm = true) (hg : Gl X "sorted") (hm : X.mg "sorted" = none) (hg2 : Gl X "set") (hm2 : X.mg "set" = none) (ha : PE2 X a ta ta2) (hv : bootBuiltins "sorted" = some (.builtin "sorted") := by decide +kernel) (hv2 : bootBuiltins "set" = some (.type "set") := by decide +kernel)
    (na : starEach [a] X.env = (false, eval a X.env) :: starEach [] X.env := by rfl) : PE2 X (.Call (.Name "sorted" p) [.Call (.Name "set" p2) [a] [] q] [] pos) (tSS X.K ta) (dSS ta2) :=
  ⟨pe_sortedSet hc hg hm hg2 hm2 ha.pe hv hv2 na, fun ρ μ Q2 q I σ H hA hS Q g => ha.re ρ μ _ q I σ H hA hS _ fun x μ1 v I1 H1 q1 a1 k1 r1 => by
    obtain ⟨xs, h1, h2, q1⟩ := q1
    obtain ⟨l, ws, rfl, h3, h4⟩ := asL_at a1 r1 h1
    rw [h4.strs_inv] at h3
    exact ⟨l, xs, rfl, SqL.of h3, h2, fun p' c => (g.past k1) _ _ _ _ _ (q1 p' (a1.noM c)) (a1.got c ⟨_, rfl, RpA.strs _⟩) (Kp.got c) rfl⟩⟩
end
end Y

set_option Elab.async false
set_option linter.all false
set_option maxRecDepth 100000
set_option maxHeartbeats 4000000
namespace Y
open PySem PySem.Spec PyProof.Rows L2
/-! one reading or another one; isinstance of an own instance; a dict of the module; d.get(k, x) -/
section
variable {X : Cx} {K : PySem.W.Frag} {a b c e f i o : Expr} {es rest : List Expr} {ta tb tc te tf to ti : TE} {ta2 tb2 tc2 te2 tf2 to2 ti2 : TE2} {pos apos cpos p tpos : Pos} {tl : TA} {tl2 : TA2} {x : Str} {C : Addr}
variable {ρ : Env2} {μ : Mu} {Q : DK} {k j : Nat}
def dAlt (t u : TE2) : TE2 := fun ρ μ Q => t ρ μ Q ∨ u ρ μ Q
theorem w_altL (h : ta2 ρ μ Q) : dAlt ta2 tb2 ρ μ Q := .inl h
theorem w_altR (h : tb2 ρ μ Q) : dAlt ta2 tb2 ρ μ Q := .inr h
theorem e_alt [Jx] (h1 : PE2 X e ta ta2) (h2 : PE2 X e tb tb2) : PE2 X e (fun σ H Q => ta σ H Q ∨ tb σ H Q) (dAlt ta2 tb2) :=
  ⟨⟨fun pins s σ H Q I h => h.elim (fun h => h1.pe.run pins s σ H Q I h) fun h => h2.pe.run pins s σ H Q I h⟩, fun ρ μ Q2 q I σ H hA hS Q g => q.elim (fun q => .inl (h1.re ρ μ Q2 q I σ H hA hS Q g)) fun q => .inr (h2.re ρ μ Q2 q I σ H hA hS Q g)⟩
/-! ### isinstance(x, C), x an instance of an own class -/
structure ClsI (K : PySem.W.Frag) (C : Addr) : Prop where
  cl : Cls K C
  ha : PySem.W.findIn K (.ref C) "__class__" = some (some (.builtin "object.__class__"))
  hn : PySem.W.specialIn K (.builtin "object.__class__") "__get__" = some (some (.builtin "getset_descriptor.__get__"))
  htk : PySem.W.takesIn K (.builtin "object.__class__") = some true
  hm : PySem.W.mroIn K C (.type "object") = some true
def dIsO (K : PySem.W.Frag) : DRC := fun xs μ Q => ∃ x C fs y u b, xs = [x, y] ∧ fldsOf C μ x = some fs ∧ ClsI K C ∧ ClsD y u ∧ PySem.W.kitOne K (.ref C) u = some b ∧ Q (.bl b) μ
theorem w_isO {x y : D} {fs : List (Str × D)} {u : Value} {b : Bool} (h : fldsOf C μ x = some fs) (h1 : ClsI K C) (h2 : ClsD y u) (h3 : PySem.W.kitOne K (.ref C) u = some b) (q : Q (.bl b) μ) : dIsO K [x, y] μ Q := ⟨x, C, fs, y, u, b, rfl, h, h1, h2, h3, q⟩
theorem rc_isO [Jx] : RC K (rIsi K) (dIsO K) := fun xs μ Q2 q I H vs hA r Q k => by
  obtain ⟨x, C, fs, y, u, b, rfl, h, h1, h2, h3, q⟩ := q
  obtain ⟨v, w, rfl, e1, e2⟩ := r.two_inv
  obtain ⟨p, dx, hfs, rfl, hp, _⟩ := fldsOf_at hA e1 h
  exact ⟨.ref p, w, .ref C, u, b, rfl, h2.rel e2, .base (.ins hp h1.cl h1.ha h1.hn h1.htk h1.hm), h3, k _ _ _ _ _ q hA Kp.refl rfl⟩
theorem e_isO [Jx] (hg : Gl X "isinstance") (hm : X.mg "isinstance" = none) (ha : PA2 X [a, b] tl tl2) (hv : bootBuiltins "isinstance" = some (.builtin "isinstance") := by decide +kernel) (he : starEach [a, b] X.env = (false, eval a X.env) :: starEach [b] X.env := by rfl) (hpl : (backTo pos (starEach [b] X.env)).any (·.1) = false := by rfl) :
    PE2 X (.Call (.Name "isinstance" p) [a, b] [] pos) (tCB (rIsi X.K) tl) (dCB (dIsO X.K) tl2) := e_cb call_isi rc_isO hg hm hv ha (he := he) (hpl := hpl)
/-! ### a dict of the module, its values tuples of texts -/
structure Kdt (wp : Params) (K : PySem.W.Frag) (mg : Str → Option Value) (x : Str) (p : Addr) (rows : List (Str × List Str)) : Prop where
  mg : mg x = some (.ref p)
  of : ∃ es n, K.lookup p = some ⟨.type "dict", none, .dict es n, #[]⟩ ∧ PySem.W.KeysLit wp es.toList
  low : (p == sysModules) = false
  row : ∀ z ws, rows.lookup z = some ws → ∃ q o its n, PySem.W.nsIn K p z = some (some (.ref q)) ∧ K.lookup q = some o ∧ o.cls = .type "tuple" ∧ o.data = .seq its n ∧ its.size ≤ sizeLine ∧ Vals (ws.map V.str) its.toList
variable {wp : Params} {rows : List (Str × List Str)} {d : Addr}
theorem e_globA [Jx] (G : Kdt wp X.K X.mg x d rows) (hg : Gl X x) (hd : (x == ("__debug__" : Str)) = false := by decide) : PE2 X (.Name x pos) (tC (.ref d)) (dC (.adr d)) := e_cst (pe_glob hg G.mg rfl hd) fun _ => rfl
def dIxKd (d : Addr) (rows : List (Str × List Str)) : DR2 := fun x y μ Q => ∃ z ws, x = .adr d ∧ y = .str z ∧ rows.lookup z = some ws ∧ Q (.tup (ws.map D.str)) μ
theorem w_ixKd {z : Str} {ws : List Str} (h : rows.lookup z = some ws) (q : Q (.tup (ws.map D.str)) μ) : dIxKd d rows (.adr d) (.str z) μ Q := ⟨z, ws, rfl, rfl, h, q⟩
theorem rr_ixKd [Jx] {w : World} {mg : Str → Option Value} (G : Kdt w.params K mg x d rows) : RR K (rIxD K w) (dIxKd d rows) := fun x y μ Q2 q I H vx vy hA rx ry Q k => by
  obtain ⟨z, ws, rfl, rfl, h, q⟩ := q
  cases (show vx = _ from rx)
  cases (show vy = _ from ry)
  obtain ⟨es, n, h1, h2⟩ := G.of
  obtain ⟨qa, ob, its, m, e1, e2, e3, e4, e5, e6⟩ := G.row z ws h
  exact ⟨d, z, .ref qa, rfl, rfl, ⟨es, n, _, h1, h2, e1, rfl⟩, k _ _ _ _ _ q hA Kp.refl ⟨qa, ws.map V.str, rfl, .inr ⟨ob, its, m, e2, e3, e4, e5, e6⟩, RpA.strs ws⟩⟩
theorem e_ixKd [Jx] (G : Kdt X.w.params X.K X.mg x d rows) (ha : PE2 X a ta ta2) (hb : PE2 X b tb tb2) (hs : PlainIx b) : PE2 X (.Subscript a b pos) (tOp (rIxD X.K X.w) ta tb) (dOp (dIxKd d rows) ta2 tb2) := ⟨pe_ix ix_kdict ha.pe hb.pe hs, re_op (rr_ixKd G) ha.re hb.re⟩
abbrev rvNotInKd (K : PySem.W.Frag) (d : Addr) : R2 := fun x y H Q => ∃ (z : Str) (r : Option Value), x = .str z ∧ y = .ref d ∧ PySem.W.nsIn K d z = some r ∧ Q (.bl (!r.isSome)) H
def dNotInKd (d : Addr) (rows : List (Str × List Str)) : DR2 := fun x y μ Q => ∃ z ws, x = .str z ∧ y = .adr d ∧ rows.lookup z = some ws ∧ Q (.bl false) μ
theorem w_notInKd {z : Str} {ws : List Str} (h : rows.lookup z = some ws) (q : Q (.bl false) μ) : dNotInKd d rows (.str z) (.adr d) μ Q := ⟨z, ws, rfl, rfl, h, q⟩
theorem rr_notInKd [Jx] {mg : Str → Option Value} (G : Kdt wp K mg x d rows) : RR K (rvNotInKd K d) (dNotInKd d rows) := fun x y μ Q2 q I H vx vy hA rx ry Q k => by
  obtain ⟨z, ws, rfl, rfl, h, q⟩ := q
  cases (show vx = _ from rx)
  cases (show vy = _ from ry)
  obtain ⟨qa, ob, its, m, e1, _⟩ := G.row z ws h
  exact ⟨z, _, rfl, rfl, e1, k _ _ _ _ _ q hA Kp.refl rfl⟩
theorem Kdt.opN (G : Kdt X.w.params X.K X.mg x d rows) : OpR X (compareOp .NotIn) (rvNotInKd X.K d) := by
  obtain ⟨es, n, h1, h2⟩ := G.of
  exact op_notIn_kd ⟨h1, h2, G.low⟩
theorem e_notInKd [Jx] (G : Kdt X.w.params X.K X.mg x d rows) (ha : PE2 X a ta ta2) (hb : PE2 X b tb tb2) (hm : behindInMarks .NotIn b = false) : PE2 X (.Compare a [.NotIn] [b] pos) (tOp (rvNotInKd X.K d) ta tb) (dOp (dNotInKd d rows) ta2 tb2) := e_cmp G.opN (rr_notInKd G) ha hb hm
theorem t_notInKd [Jx] (G : Kdt X.w.params X.K X.mg x d rows) (ha : PE2 X a ta ta2) (hb : PE2 X b tb tb2) (hm : behindInMarks .NotIn b = false) : PT2 X (.Compare a [.NotIn] [b] pos) (tTest (tOp (rvNotInKd X.K d) ta tb)) (dVal (dOp (dNotInKd d rows) ta2 tb2)) := t_cmp G.opN (rr_notInKd G) ha hb hm
/-! ### d.get(k, x) -/
def dGet2 (to te tf : TE2) : TE2 := fun ρ μ Q => to ρ μ fun x μ1 => (∃ a kvs, x = .adr a ∧ μ1 a = some (.dk kvs)) ∧ te ρ μ1 fun y μ2 => tf ρ μ2 fun z μ3 => ∃ a kvs k, x = .adr a ∧ μ3 a = some (.dk kvs) ∧ y = kD k ∧ Q ((valD kvs k).getD z) μ3
def dGet2K (N : Prop) : D → Mu → Prop := fun x μ1 => (∃ a kvs, x = .adr a ∧ μ1 a = some (.dk kvs)) ∧ N
def dGet2L (x y : D) (Q : DK) : DK := fun z μ3 => ∃ a kvs k, x = .adr a ∧ μ3 a = some (.dk kvs) ∧ y = kD k ∧ Q ((valD kvs k).getD z) μ3
theorem w_get2 (h : to2 ρ μ fun x μ1 => dGet2K (te2 ρ μ1 fun y μ2 => tf2 ρ μ2 (dGet2L x y Q)) x μ1) : dGet2 to2 te2 tf2 ρ μ Q := h
theorem w_get2K {N : Prop} {a : Addr} {kvs : List (Key × D)} (h : μ a = some (.dk kvs)) (q : N) : dGet2K N (.adr a) μ := ⟨⟨a, kvs, rfl, h⟩, q⟩
theorem w_get2L {a : Addr} {kvs : List (Key × D)} {k : Key} {z : D} (h : μ a = some (.dk kvs)) (q : Q ((valD kvs k).getD z) μ) : dGet2L (.adr a) (kD k) Q z μ := ⟨a, kvs, k, rfl, h, rfl, q⟩
theorem e_get2 [Jx] (hr : Room k X.A) (ho : PE2 X o to to2) (he : PE2 X e te te2) (hf : PE2 X f tf tf2) (hbase : attributeBase o "get" X.env (eval o X.env) = eval o X.env := by rfl)
    (hfew : ((backTo cpos (starEach [e, f] X.env)).all (fun x => !x.1) && (backToKw cpos (keywordEach [] X.env)).all (fun x => x.1.isSome) && decide (([e, f] : List Expr).length + ([] : List Keyword).length + (if ([] : List Keyword).isEmpty then 0 else 1) < 30)) = true := by rfl)
    (hline : (apos.endLine == cpos.line) = true := by rfl) (hs : backTo cpos (starEach [e, f] X.env) = [(false, eval e X.env), (false, eval f X.env)] := by rfl) :
    PE2 X (.Call (.Attribute o "get" apos) [e, f] [] cpos) (tDGet2 to te tf) (dGet2 to2 te2 tf2) :=
  ⟨pe_dget2 (Nat.lt_of_le_of_lt (Nat.add_le_add_left (by decide) _) hr.units) ho.pe he.pe hf.pe ⟨hbase, hfew, hline, hs⟩, fun ρ μ Q2 q I σ H hA hS Q g => ho.re ρ μ _ q I σ H hA hS _ fun x μ1 vx I1 H1 q1 a1 k1 r1 => by
    obtain ⟨⟨p0, kvs0, rfl, h0⟩, q1⟩ := q1
    obtain ⟨hvs0, g0, _⟩ := at_dk a1 h0
    cases (show vx = _ from r1)
    refine ⟨p0, rfl, .inl ⟨hvs0, .inl g0⟩, he.re ρ μ1 _ q1 I1 σ H1 a1 (hS.mono k1.ex) _ fun y μ2 vy I2 H2 q2 a2 k2 r2 => hf.re ρ μ2 _ q2 I2 σ H2 a2 (hS.mono (k1.trans k2).ex) _ fun z μ3 vz I3 H3 q3 a3 k3 r3 => ?_⟩
    obtain ⟨p1, kvs, ky, e1, h, rfl, q3⟩ := q3
    cases e1
    obtain ⟨hvs, h1, r⟩ := at_dk a3 h
    have hv := valD_rp (k := ky) r
    cases rp_kD r2
    refine ⟨valV hvs ky, DGet.k h1, ?_⟩
    cases e : valD kvs ky with
    | none =>
      rw [e] at hv q3
      rw [show valV hvs ky = none from hv]
      exact g _ _ _ _ _ q3 a3 ((k1.trans k2).trans k3) r3
    | some v0 =>
      rw [e] at hv q3
      obtain ⟨v, e1, rv⟩ := hv
      rw [e1]
      exact g _ _ _ _ _ q3 a3 ((k1.trans k2).trans k3) rv⟩
end
/-- a class of which nothing but its name is asked -/
structure Kb (mg : Str → Option Value) (x : Str) (C : Addr) : Prop where
  mg : mg x = some (.ref C)
def KdRow (K : PySem.W.Frag) (p : Addr) (z : Str) (ws : List Str) : Prop := ∃ q o its n, PySem.W.nsIn K p z = some (some (.ref q)) ∧ K.lookup q = some o ∧ o.cls = .type "tuple" ∧ o.data = .seq its n ∧ its.size ≤ sizeLine ∧ Vals (ws.map V.str) its.toList
def KdRows (K : PySem.W.Frag) (p : Addr) : List (Str × List Str) → Prop
  | [] => True
  | r :: rs => KdRow K p r.1 r.2 ∧ KdRows K p rs
theorem kdt_rows {K : PySem.W.Frag} {p : Addr} : ∀ {rows : List (Str × List Str)}, KdRows K p rows → ∀ z ws, rows.lookup z = some ws → KdRow K p z ws
  | [], _, z, ws, h => by cases h
  | (y, vs) :: r, ⟨h1, h2⟩, z, ws, h => by
    rw [List.lookup_cons] at h
    cases q : z == y with
    | true =>
      rw [q] at h
      cases h
      rw [beq_iff_eq.mp q]; exact h1
    | false =>
      rw [q] at h
      exact kdt_rows h2 z ws h
theorem kq_of {K : PySem.W.Frag} {cc : Nat → Addr} {R : Nat → Nat → Bool → Prop} {i j : Nat} {b : Bool} (h : ∀ i j b, R i j b → PySem.W.kitOne K (.ref (cc i)) (.ref (cc j)) = some b) (e : R i j b) : PySem.W.kitOne K (.ref (cc i)) (.ref (cc j)) = some b := h i j b e
theorem ci_of {K : PySem.W.Frag} {cc : Nat → Addr} {R : Nat → Prop} {i : Nat} (h : ∀ i, R i → ClsI K (cc i)) (e : R i) : ClsI K (cc i) := h i e
end Y

set_option Elab.async false
set_option linter.all false
set_option maxRecDepth 100000
set_option maxHeartbeats 4000000
namespace Y
open PySem PySem.Spec PyProof.Rows L2
/-! texts put together -/
theorem app_cps (x y : Str) : (x ++ y).cps.toList = x.cps.toList ++ y.cps.toList := by
  show (x.cps ++ y.cps).toList = _
  rw [Array.toList_append]
theorem emp_app (x : Str) : Str.empty ++ x = x := str_ext (by rw [app_cps]; rfl)
theorem ap3 (a b c : Str) : a ++ b ++ c = a ++ (b ++ c) := str_ext (by simp only [app_cps, List.append_assoc])
theorem len_app (a b : Str) : (a ++ b).length = a.length + b.length := Str.length_append a b
theorem ok_app (a b : Str) : PyData.strOk (a ++ b) = (PyData.strOk a && PyData.strOk b) := by
  unfold PyData.strOk
  rw [← Array.all_toList, ← Array.all_toList, ← Array.all_toList, app_cps, List.all_append]
abbrev tx (n : Int) : Str := Str.ofString (toString n)
theorem tx_len {n : Int} (h0 : 0 ≤ n) (h : n < 10 ^ 10) : (tx n).length ≤ 10 := toString_length_le h0 (by decide) h
theorem tx_ok {n : Int} (h0 : 0 ≤ n) : PyData.strOk (tx n) = true := by
  obtain ⟨k, rfl⟩ := Int.eq_ofNat_of_zero_le h0
  unfold PyData.strOk
  rw [← Array.all_toList, show (tx (k : Int)).cps.toList = (Nat.toDigits 10 k).map Char.toNat from PySem.W.KIN.signs_num k, List.all_map]
  refine List.all_eq_true.mpr fun c hc => ?_
  have h := Nat.isDigit_of_mem_toDigits (by decide) (by decide) hc
  unfold Char.isDigit at h
  rw [Bool.and_eq_true, decide_eq_true_eq, decide_eq_true_eq] at h
  have h3 : c.toNat ≤ 57 := h.2
  exact decide_eq_true (by omega)
theorem lg_small {n : Int} (h : n.natAbs < 2 ^ 64) : n.natAbs.log2 < 1920 := by
  by_cases e : n.natAbs = 0
  · rw [e]; decide
  · exact Nat.lt_trans ((Nat.log2_lt e).mpr h) (by decide)
theorem join1 (s x : Str) : Txt.join s [x] = x := by rw [TL.join_eq]; rfl
theorem join2 (s x y : Str) (r : List Str) : Txt.join s (x :: y :: r) = x ++ (s ++ Txt.join s (y :: r)) := by
  rw [TL.join_eq, TL.join_eq, PyProof.Rows.join_cons_cons, ap3]
section
variable {ρ : Env2} {μ : Mu} {Q : DK}
theorem w_jsK0 {ts : List TE2} {y : Str} (l : y.length ≤ sizeLine) (q : dJs ts y ρ μ Q) : dJsK ts Str.empty ρ Q (.str y) μ := ⟨y, rfl, by rw [emp_app]; exact l, by rw [emp_app]; exact q⟩
theorem w_get2S {a : Addr} {kvs : List (Key × D)} {x : Str} {z : D} (h : μ a = some (.dk kvs)) (q : Q ((valD kvs (.inr x)).getD z) μ) : dGet2L (.adr a) (.str x) Q z μ := w_get2L (k := .inr x) h q
end
end Y

set_option Elab.async false
set_option linter.all false
set_option maxRecDepth 100000
set_option maxHeartbeats 4000000
namespace Y
open PySem PySem.Spec PyProof.Rows L2
theorem inn_str (z : Str) (l : List Str) : (D.str z).inn (l.map D.str) = decide (z ∈ l) := by
  induction l with
  | nil => rfl
  | cons y l ih =>
    show (y == z || (D.str z).inn (l.map D.str)) = _
    rw [ih]
    by_cases e : y = z
    · subst e; simp
    · rw [show (y == z) = false from beq_eq_false_iff_ne.mpr e, Bool.false_or]
      exact decide_eq_decide.mpr (by simp [List.mem_cons, Ne.symm e])
theorem flat_strs (l : List Str) : (l.map D.str).all D.flat = true := by
  rw [List.all_map]; exact List.all_eq_true.mpr fun _ _ => rfl
theorem eq_self {μ : Mu} {x : D} (s : D.shp 64 x = true) (e : rsv μ x = x) : EqR μ x x true := .inr ⟨by rw [e]; exact s, by rw [e]; exact s, by rw [e]; exact eqv_self rfl s⟩
end Y

set_option Elab.async false
set_option linter.all false
set_option maxRecDepth 100000
set_option maxHeartbeats 4000000
namespace Y
open PySem PySem.Spec PyProof.Rows L2
/-! int(text); reversed(range(..)); list(range(..)) -/
section
variable {X : Cx} {K : PySem.W.Frag} {a b c e f i o : Expr} {es rest : List Expr} {ta tb tc te tf to ti : TE} {ta2 tb2 tc2 te2 tf2 to2 ti2 : TE2} {pos apos cpos p q tpos : Pos} {tl : TA} {tl2 : TA2} {x : Str}
variable {ρ : Env2} {μ : Mu} {Q : DK}
def dIntS : DRC := fun xs μ Q => ∃ (z : Str) (n : Int), xs = [.str z] ∧ PySem.intText? z = some n ∧ z.length ≤ 640 ∧ Q (.int n) μ
theorem w_intS {z : Str} {n : Int} (h : PySem.intText? z = some n) (l : z.length ≤ 640) (q : Q (.int n) μ) : dIntS [.str z] μ Q := ⟨z, n, rfl, h, l, q⟩
abbrev rvIntS : List V → Hp → VK → Prop := fun xs H Q => ∃ a n, xs = [.str a] ∧ PySem.intText? a = some n ∧ a.length ≤ 640 ∧ Q (.int n) H
theorem e_intS [Jx] (hg : Gl X "int") (hm : X.mg "int" = none) (ha : PA2 X [e] tl tl2) (hv : bootBuiltins "int" = some (.type "int") := by decide +kernel) (he : starEach [e] X.env = (false, eval e X.env) :: starEach [] X.env := by rfl) : PE2 X (.Call (.Name "int" p) [e] [] pos) (tCB rvIntS tl) (dCB dIntS tl2) :=
  e_cty call_int_str (fun xs μ Q2 q I H vs hA r Q k => by
    obtain ⟨z, n, rfl, h, l, q⟩ := q
    obtain ⟨v, rfl, e⟩ := r.one_inv
    cases (show v = _ from e)
    exact ⟨z, n, rfl, h, l, k _ _ _ _ _ q hA Kp.refl rfl⟩) hg hm hv ha (he := he)
/-! reversed(range(..)) -/
theorem itd_c [Jx] {I : Hp} (lo : Int) (n : Nat) : ItD K (Itc (lo + (n : Int) - 1) (-1) n) (rngD lo n).reverse (fun _ => True) I := fun i I' μ' H' e a _ => by
  rw [List.length_reverse, rngD_len]
  refine ⟨fun hi => ⟨hi, fun w H2 y => ?_⟩, fun hi => hi⟩
  obtain ⟨rfl, rfl⟩ := y
  refine ⟨.int (lo + ((n - 1 - i : Nat) : Int)), I', ?_, a, Kp.refl, ?_⟩
  · rw [rev_get (by rw [rngD_len]; exact hi), rngD_len, rngD_get (by omega)]
  · show V.int _ = V.int _
    congr 1; omega
def jRv1 (t : TE2) : TI2 := fun ρ μ R => t ρ μ fun d μ1 => ∃ n : Int, d = .int n ∧ (-(2 ^ 62) ≤ n ∧ n < 2 ^ 62) ∧ R (rngD 0 n.toNat).reverse (fun _ => True) μ1
def jRv1K (R : List D → (Mu → Prop) → Mu → Prop) : DK := fun d μ1 => ∃ n : Int, d = .int n ∧ (-(2 ^ 62) ≤ n ∧ n < 2 ^ 62) ∧ R (rngD 0 n.toNat).reverse (fun _ => True) μ1
theorem w_jRv1 {R : List D → (Mu → Prop) → Mu → Prop} (h : te2 ρ μ (jRv1K R)) : jRv1 te2 ρ μ R := h
theorem w_jRv1K {R : List D → (Mu → Prop) → Mu → Prop} {n : Int} (h : -(2 ^ 62) ≤ n ∧ n < 2 ^ 62) (q : R (rngD 0 n.toNat).reverse (fun _ => True) μ) : jRv1K R (.int n) μ := ⟨n, rfl, h, q⟩
theorem j_rv1 [Jx] {tg : Expr} (hg : Gl X "reversed") (hm : X.mg "reversed" = none) (hg2 : Gl X "range") (hm2 : X.mg "range" = none) (ha : PE2 X a ta ta2) (na : starEach [a] X.env = (false, eval a X.env) :: starEach [] X.env := by rfl)
    (hs : starEach [.Call (.Name "range" p) [a] [] pos] X.env = (false, eval (.Call (.Name "range" p) [a] [] pos) X.env) :: starEach [] X.env := by rfl) : PI2 X tg (.Call (.Name "reversed" q) [.Call (.Name "range" p) [a] [] pos] [] cpos) (iRevR (tRg1 ta)) (jRv1 ta2) :=
  ⟨pi_revR hg hm (prg_1 hg2 hm2 ha.pe na) hs, fun ρ μ R2 q I σ H hA hS R k => ha.re ρ μ _ q I σ H hA hS _ fun d μ1 v I1 H1 q1 a1 k1 r1 => by
    obtain ⟨n, rfl, h, q1⟩ := q1
    cases (show v = _ from r1)
    refine ⟨n, rfl, by decide, by decide, h.1, h.2, ?_⟩
    rw [show n - 0 = n by omega]
    exact k _ _ _ _ _ _ q1 a1 k1 (itd_c 0 n.toNat)⟩
/-! list(range(..)) -/
theorem rp_rng {I : Hp} {lo : Int} {n : Nat} : RpA K I (rngD lo n) ((List.range n).map fun i => V.int (lo + (i : Nat))) := by
  unfold rngD
  generalize List.range n = l
  induction l with
  | nil => rfl
  | cons x l ih => exact ⟨_, _, rfl, rfl, ih⟩
def dLstRg1 (t : TE2) : TE2 := fun ρ μ Q => t ρ μ fun d μ1 => ∃ n : Int, d = .int n ∧ RgOk 0 n ∧ ∀ p, μ1 p = none → Q (.adr p) (mup μ1 p (.lst (rngD 0 n.toNat)))
def dLstRg1K (Q : DK) : DK := fun d μ1 => ∃ n : Int, d = .int n ∧ RgOk 0 n ∧ ∀ p, μ1 p = none → Q (.adr p) (mup μ1 p (.lst (rngD 0 n.toNat)))
theorem w_lrg1 (h : te2 ρ μ (dLstRg1K Q)) : dLstRg1 te2 ρ μ Q := h
theorem w_lrg1K {n : Int} (h : RgOk 0 n) (q : ∀ p, μ p = none → Q (.adr p) (mup μ p (.lst (rngD 0 n.toNat)))) : dLstRg1K Q (.int n) μ := ⟨n, rfl, h, q⟩
theorem e_listRg1 [Jx] (hc : X.calm = true) (hg : Gl X "list") (hm : X.mg "list" = none) (hg2 : Gl X "range") (hm2 : X.mg "range" = none) (ha : PE2 X a ta ta2) (na : starEach [a] X.env = (false, eval a X.env) :: starEach [] X.env := by rfl)
    (hs : starEach [.Call (.Name "range" p) [a] [] pos] X.env = (false, eval (.Call (.Name "range" p) [a] [] pos) X.env) :: starEach [] X.env := by rfl) : PE2 X (.Call (.Name "list" q) [.Call (.Name "range" p) [a] [] pos] [] cpos) (tLstRg (tRg1 ta)) (dLstRg1 ta2) :=
  ⟨pe_listRg hc hg hm (prg_1 hg2 hm2 ha.pe na) hs, fun ρ μ Q2 q I σ H hA hS Q g => ha.re ρ μ _ q I σ H hA hS _ fun d μ1 v I1 H1 q1 a1 k1 r1 => by
    obtain ⟨n, rfl, h, q1⟩ := q1
    cases (show v = _ from r1)
    refine ⟨n, rfl, h, fun p' hp => ?_⟩
    have e : rgV 0 n = (List.range n.toNat).map fun i => V.int (0 + (i : Nat)) := by unfold rgV; rw [show n - 0 = n by omega]
    exact g _ _ _ _ _ (q1 p' (a1.noM hp)) (a1.got hp ⟨_, rfl, e ▸ rp_rng⟩) (k1.trans (Kp.got hp)) rfl⟩
end
end Y

set_option Elab.async false
set_option linter.all false
set_option maxRecDepth 100000
set_option maxHeartbeats 4000000
namespace Y
open PySem PySem.Spec PyProof.Rows L2
/-! bits -/
theorem add_and_or (x : Nat) : ∀ y : Nat, x + y = (x ||| y) + (x &&& y) ∧ x ||| y = (x &&& y) + (x ^^^ y) := by
  induction x using Nat.strongRecOn with
  | ind x ih =>
    intro y
    by_cases hx : x = 0
    · subst hx; simp
    · have h := ih (x / 2) (by omega) (y / 2)
      have e1 : (x ||| y) / 2 = x / 2 ||| y / 2 := Nat.or_div_two
      have e2 : (x &&& y) / 2 = x / 2 &&& y / 2 := Nat.and_div_two
      have e3 : (x ^^^ y) / 2 = x / 2 ^^^ y / 2 := Nat.xor_div_two
      have f1 : (x ||| y) % 2 = (x % 2 ||| y % 2) := by simpa using @Nat.or_mod_two_pow x y 1
      have f2 : (x &&& y) % 2 = (x % 2 &&& y % 2) := by simpa using @Nat.and_mod_two_pow x y 1
      have f3 : (x ^^^ y) % 2 = (x % 2 ^^^ y % 2) := by simpa using @Nat.xor_mod_two_pow x y 1
      rcases Nat.mod_two_eq_zero_or_one x with a | a <;> rcases Nat.mod_two_eq_zero_or_one y with b | b <;> rw [a, b] at f1 f2 f3 <;> simp only [Nat.reduceOr, Nat.reduceAnd, Nat.reduceXor] at f1 f2 f3 <;> omega
theorem band_nat (a b : Nat) : Builtin.bitAnd (a : Int) (b : Int) = ((a &&& b : Nat) : Int) := by simp [Builtin.bitAnd]
theorem bor_nat (a b : Nat) : Builtin.bitOr (a : Int) (b : Int) = ((a ||| b : Nat) : Int) := by
  have h := (add_and_or a b).1
  rw [PyProof.Rows.bitOr_and, band_nat]; omega
theorem one_shl (n : Nat) : (1 : Int) * 2 ^ ((n : Int)).toNat = ((2 ^ n : Nat) : Int) := by simp
/-- the bits of some numbers -/
def bitsN (l : List Nat) : Nat := l.foldl (fun a i => a ||| 2 ^ i) 0
theorem bits_snoc (l : List Nat) (i : Nat) : bitsN (l ++ [i]) = bitsN l ||| 2 ^ i := by
  unfold bitsN; rw [List.foldl_append]; rfl
theorem tb_foldl (j : Nat) : ∀ (l : List Nat) (a : Nat), (l.foldl (fun a i => a ||| 2 ^ i) a).testBit j = (a.testBit j || decide (j ∈ l))
  | [], a => by simp
  | i :: l, a => by
    rw [List.foldl_cons, tb_foldl j l, Nat.testBit_or, Nat.testBit_two_pow]
    by_cases h1 : i = j
    · subst h1; simp
    · have h2 : ¬ j = i := fun e => h1 e.symm
      simp [h1, h2]
theorem tb_bits (l : List Nat) (j : Nat) : (bitsN l).testBit j = decide (j ∈ l) := by
  unfold bitsN; rw [tb_foldl]; simp
theorem bits_ne {l : Nat} (h : l ≠ 0) : ∃ j, l.testBit j = true := by
  by_cases q : ∃ j, l.testBit j = true
  · exact q
  · exact absurd (Nat.eq_of_testBit_eq fun i => by
      rw [Nat.zero_testBit]
      cases e : l.testBit i with
      | false => rfl
      | true => exact absurd ⟨i, e⟩ q) h
theorem bits_eq {a b : Nat} (h : ∀ j, a.testBit j = true ↔ b.testBit j = true) : a = b := Nat.eq_of_testBit_eq fun i => by
  have := h i
  cases e : a.testBit i <;> cases f : b.testBit i <;> rw [e, f] at this <;> simp at this ⊢
end Y

set_option Elab.async false
set_option linter.all false
set_option maxRecDepth 100000
set_option maxHeartbeats 4000000
namespace Y
open PySem PySem.Spec PyProof.Rows L2
/-! what loops walk over -/
theorem enu_mem {α : Type} (f : α → D) : ∀ (l : List α) (n : Nat) (d : D), d ∈ enuD n (l.map f) → ∃ (i : Nat) (x : α), d = .tup [.int ((n + i : Nat) : Int), f x] ∧ l[i]? = some x
  | [], _, _, h => by cases h
  | x :: l, n, d, h => by
    rcases List.mem_cons.mp (show d ∈ D.tup [.int (n : Nat), f x] :: enuD (n + 1) (l.map f) from h) with rfl | h
    · exact ⟨0, x, rfl, rfl⟩
    · obtain ⟨i, y, e1, e2⟩ := enu_mem f l (n + 1) d h
      exact ⟨i + 1, y, by rw [e1]; congr 4; omega, by simpa using e2⟩
theorem enu_mem0 {α : Type} {f : α → D} {l : List α} {d : D} (h : d ∈ enuD 0 (l.map f)) : ∃ (i : Nat) (x : α), d = .tup [.int (i : Int), f x] ∧ l[i]? = some x := by
  obtain ⟨i, x, e1, e2⟩ := enu_mem f l 0 d h
  exact ⟨i, x, by rw [e1, Nat.zero_add], e2⟩
theorem rng_mem {lo : Int} {n : Nat} {d : D} (h : d ∈ rngD lo n) : ∃ i : Nat, i < n ∧ d = .int (lo + (i : Int)) := by
  unfold rngD at h
  obtain ⟨i, hi, rfl⟩ := List.mem_map.mp h
  exact ⟨i, List.mem_range.mp hi, rfl⟩
theorem rng_mem0 {n : Nat} {d : D} (h : d ∈ rngD 0 n) : ∃ i : Nat, i < n ∧ d = .int (i : Int) := by
  obtain ⟨i, h1, rfl⟩ := rng_mem h
  exact ⟨i, h1, by rw [Int.zero_add]⟩
theorem at_map {α : Type} {f : α → D} {l : List α} {i : Nat} {x : α} (h : l[i]? = some x) : atI (l.map f) (i : Int) = some (f x) := atI_nat (by rw [List.getElem?_map, h]; rfl)
theorem eqr_nil {μ : Mu} {l : List D} (h : D.shpA 63 l = true) : EqR μ (.lst l) (.lst []) l.isEmpty := .inr ⟨h, rfl, by cases l <;> rfl⟩
theorem shp_strs {n : Nat} {l : List Str} (h : ∀ x ∈ l, PyData.strOk x = true) : D.shpA n (l.map D.str) = true := shpA_all fun d hd => by
  obtain ⟨x, hx, rfl⟩ := List.mem_map.mp hd
  rw [shp_str]; exact h x hx
theorem empty_filter {α : Type} (l : List α) (p : α → Bool) : (l.filter p).isEmpty = !(l.any p) := by
  induction l with
  | nil => rfl
  | cons x l ih =>
    rw [List.filter_cons, List.any_cons]
    cases e : p x with
    | true => rfl
    | false => rw [if_neg Bool.false_ne_true, ih]; rfl
theorem isEmpty_map {α β : Type} (l : List α) (f : α → β) : (l.map f).isEmpty = l.isEmpty := by cases l <;> rfl
end Y

set_option Elab.async false
set_option linter.all false
set_option maxRecDepth 100000
set_option maxHeartbeats 4000000
namespace Y
open PySem PySem.Spec PyProof.Rows L2
/-! one step, found by its head -/
class Step (A : Prop) (B : outParam Prop) : Prop where
  go : B → A
section
variable {K : PySem.W.Frag} {X : Cx} {ta2 tb2 tc2 te2 tf2 to2 ti2 : TE2} {tt2 tu2 : TT2} {tl2 : TA2} {ts2 tz2 : TS2} {D2 : Ends2} {C : Addr} {f m : Str} {sp : Sp2} {x y z : Str} {cs : List String}
variable {ρ : Env2} {μ : Mu} {Q : DK} {T F : Mu → Prop}
instance st_seq {n b c : Env2 → Mu → Prop} {r : DK} : Step (dSeq ts2 tz2 ⟨n, r, b, c⟩ ρ μ) (ts2 ⟨tz2 ⟨n, r, b, c⟩, r, b, c⟩ ρ μ) := ⟨fun q => w_seq q⟩
instance st_c {d : D} {ρ : Env2} {μ : Mu} {Q : DK} : Step (dC d ρ μ Q) (Q d μ) := ⟨fun q => w_c q⟩
instance st_op {r : DR2} {ρ : Env2} {μ : Mu} {Q : DK} : Step (dOp r ta2 tb2 ρ μ Q) ((ta2 ρ μ fun x μ1 => tb2 ρ μ1 fun y μ2 => r x y μ2 Q)) := ⟨fun q => w_op q⟩
instance st_un {r : DR1} {ρ : Env2} {μ : Mu} {Q : DK} : Step (dUn r ta2 ρ μ Q) ((ta2 ρ μ fun x μ1 => r x μ1 Q)) := ⟨fun q => w_un q⟩
instance st_asg {g : TG2} {n b c : Env2 → Mu → Prop} {r : DK} : Step (dAsg te2 g ⟨n, r, b, c⟩ ρ μ) ((te2 ρ μ fun d μ1 => g d ρ μ1 n)) := ⟨fun q => w_asg q⟩
instance st_gN {i : Nat} {d : D} {QE : Env2 → Mu → Prop} : Step (gN i d ρ μ QE) (QE (ρ.set i (some d)) μ) := ⟨fun q => w_gN q⟩
instance st_ret {n b c : Env2 → Mu → Prop} {r : DK} : Step (dRet te2 ⟨n, r, b, c⟩ ρ μ) (te2 ρ μ r) := ⟨fun q => w_ret q⟩
instance st_ifS  : Step (dIfS tt2 ts2 tz2 D2 ρ μ) ((tt2 ρ μ (fun μ1 => ts2 D2 ρ μ1) (fun μ1 => tz2 D2 ρ μ1))) := ⟨fun q => w_ifS q⟩
instance st_val  : Step (dVal te2 ρ μ T F) (te2 ρ μ (dTail T F)) := ⟨fun q => w_val q⟩
instance st_tail {b : Bool} : Step (dTail T F (.bl b) μ) (Br b (T μ) (F μ)) := ⟨fun q => w_tail q⟩
instance st_and  : Step (dAnd tt2 tu2 ρ μ T F) ((tt2 ρ μ (fun μ1 => tu2 ρ μ1 T F) F)) := ⟨fun q => w_and q⟩
instance st_or  : Step (dOr tt2 tu2 ρ μ T F) ((tt2 ρ μ T (fun μ1 => tu2 ρ μ1 T F))) := ⟨fun q => w_or q⟩
instance st_not  : Step (dNot tt2 ρ μ T F) (tt2 ρ μ F T) := ⟨fun q => w_not q⟩
instance st_if  : Step (dIf tt2 ta2 tb2 ρ μ Q) ((tt2 ρ μ (fun μ1 => ta2 ρ μ1 Q) (fun μ1 => tb2 ρ μ1 Q))) := ⟨fun q => w_if q⟩
instance st_andV  : Step (dAndV ta2 tb2 ρ μ Q) ((ta2 ρ μ (dTail (fun μ1 => tb2 ρ μ1 Q) (fun μ1 => Q (.bl false) μ1)))) := ⟨fun q => w_andV q⟩
instance st_orV  : Step (dOrV ta2 tb2 ρ μ Q) ((ta2 ρ μ (dTail (fun μ1 => Q (.bl true) μ1) (fun μ1 => tb2 ρ μ1 Q)))) := ⟨fun q => w_orV q⟩
instance st_notV  : Step (dNotV ta2 ρ μ Q) (ta2 ρ μ (dNotK Q)) := ⟨fun q => w_notV q⟩
instance st_notK {b : Bool} : Step (dNotK Q (.bl b) μ) (Q (.bl (!b)) μ) := ⟨fun q => w_notK q⟩
instance st_chain {r r' : DR2} : Step (dChain r r' ta2 tb2 tc2 ρ μ Q) ((ta2 ρ μ fun x μ1 => tb2 ρ μ1 fun y μ2 => r x y μ2 (dTail (fun μ3 => tc2 ρ μ3 fun z μ4 => r' y z μ4 Q) (fun μ3 => Q (.bl false) μ3)))) := ⟨fun q => w_chain q⟩
instance st_call  : Step (dCall sp tl2 ρ μ Q) ((tl2 ρ μ fun ds μ1 => sp ds μ1 Q NoX)) := ⟨fun q => w_call q⟩
instance st_cb {r : DRC} : Step (dCB r tl2 ρ μ Q) ((tl2 ρ μ fun ds μ1 => r ds μ1 Q)) := ⟨fun q => w_cb q⟩
instance st_nil {QA : List D → Mu → Prop} : Step (dNil ρ μ QA) (QA [] μ) := ⟨fun q => w_nil q⟩
instance st_cons {QA : List D → Mu → Prop} : Step (dCons ta2 tl2 ρ μ QA) ((ta2 ρ μ fun x μ1 => tl2 ρ μ1 fun xs μ2 => QA (x :: xs) μ2)) := ⟨fun q => w_cons q⟩
instance st_tup  : Step (dTup tl2 ρ μ Q) (tl2 ρ μ (dTupK Q)) := ⟨fun q => w_tup q⟩
instance st_lst  : Step (dLst tl2 ρ μ Q) ((tl2 ρ μ fun ds μ1 => dNewL ds μ1 Q)) := ⟨fun q => w_lst q⟩
instance st_fz  : Step (dFz te2 ρ μ Q) (te2 ρ μ (dFzK Q)) := ⟨fun q => w_fz q⟩
instance st_fzL  : Step (dFzL te2 ρ μ Q) (te2 ρ μ (dFzLK Q)) := ⟨fun q => w_fzL q⟩
instance st_leS {i j : Str} : Step (dLeS (.str i) (.str j) μ Q) (Q (.bl (!decide (j.cps.toList < i.cps.toList))) μ) := ⟨fun q => w_leS q⟩
instance st_pairs {trs : List (TE2 × TE2)} {QA : List (D × D) → Mu → Prop} : Step (dPairs ((ti2, te2) :: trs) ρ μ QA) ((ti2 ρ μ fun x μ1 => te2 ρ μ1 fun y μ2 => dPairs trs ρ μ2 fun ps μ3 => QA ((x, y) :: ps) μ3)) := ⟨fun q => w_pairs q⟩
instance st_pairs0 {QA : List (D × D) → Mu → Prop} : Step (dPairs [] ρ μ QA) (QA [] μ) := ⟨fun q => w_pairs0 q⟩
instance st_addI {i j : Int} : Step (dAdd (.int i) (.int j) μ Q) (Q (.int (i + j)) μ) := ⟨fun q => w_addI q⟩
instance st_sub {i j : Int} {μ : Mu} {Q : DK} : Step (dSub (.int i) (.int j) μ Q) (Q (.int (i - j)) μ) := ⟨fun q => w_sub q⟩
instance st_bitand {i j : Int} {μ : Mu} {Q : DK} : Step (dBitAnd (.int i) (.int j) μ Q) (Q (.int (Builtin.bitAnd i j)) μ) := ⟨fun q => w_bitand q⟩
instance st_bitor {i j : Int} {μ : Mu} {Q : DK} : Step (dBitOr (.int i) (.int j) μ Q) (Q (.int (Builtin.bitOr i j)) μ) := ⟨fun q => w_bitor q⟩
instance st_bitxor {i j : Int} {μ : Mu} {Q : DK} : Step (dBitXor (.int i) (.int j) μ Q) (Q (.int (Builtin.bitXor i j)) μ) := ⟨fun q => w_bitxor q⟩
instance st_neg {i : Int} {μ : Mu} {Q : DK} : Step (dNeg (.int i) μ Q) (Q (.int (-i)) μ) := ⟨fun q => w_neg q⟩
instance st_lt {i j : Int} {μ : Mu} {Q : DK} : Step (dLt (.int i) (.int j) μ Q) (Q (.bl (decide (i < j))) μ) := ⟨fun q => w_lt q⟩
instance st_le {i j : Int} {μ : Mu} {Q : DK} : Step (dLe (.int i) (.int j) μ Q) (Q (.bl (decide (i ≤ j))) μ) := ⟨fun q => w_le q⟩
instance st_gt {i j : Int} {μ : Mu} {Q : DK} : Step (dGt (.int i) (.int j) μ Q) (Q (.bl (decide (j < i))) μ) := ⟨fun q => w_gt q⟩
instance st_ge {i j : Int} {μ : Mu} {Q : DK} : Step (dGe (.int i) (.int j) μ Q) (Q (.bl (decide (j ≤ i))) μ) := ⟨fun q => w_ge q⟩
instance st_isN1  : Step (dIsN .non .non μ Q) (Q (.bl true) μ) := ⟨fun q => w_isN1 q⟩
instance st_notN1  : Step (dNotN .non .non μ Q) (Q (.bl false) μ) := ⟨fun q => w_notN1 q⟩
instance st_isB {a b : Bool} : Step (dIsB (.bl a) (.bl b) μ Q) (Q (.bl (decide (a = b))) μ) := ⟨fun q => w_isB q⟩
instance st_notB {a b : Bool} : Step (dNotB (.bl a) (.bl b) μ Q) (Q (.bl (!decide (a = b))) μ) := ⟨fun q => w_notB q⟩
instance st_lenT {ds : List D} : Step (dLen [.tup ds] μ Q) (Q (.int ds.length) μ) := ⟨fun q => w_lenT q⟩
instance st_lenR {ns : List Int} : Step (dLen [.scr ns] μ Q) (Q (.int ns.length) μ) := ⟨fun q => w_lenR q⟩
instance st_int1 {i : Int} : Step (dInt1 [.int i] μ Q) (Q (.int i) μ) := ⟨fun q => w_int1 q⟩
instance st_jRv1 {R : List D → (Mu → Prop) → Mu → Prop} : Step (jRv1 te2 ρ μ R) (te2 ρ μ (jRv1K R)) := ⟨fun q => w_jRv1 q⟩
instance st_lrg1  : Step (dLstRg1 te2 ρ μ Q) (te2 ρ μ (dLstRg1K Q)) := ⟨fun q => w_lrg1 q⟩
instance st_intB {k : Bool} : Step (dInt1 [.bl k] μ Q) (Q (.int (if k then 1 else 0)) μ) := ⟨fun q => w_intB q⟩
instance st_max2 {i j : Int} : Step (dMax2 [.int i, .int j] μ Q) (Q (.int (if j > i then j else i)) μ) := ⟨fun q => w_max2 q⟩
instance st_min2 {i j : Int} : Step (dMin2 [.int i, .int j] μ Q) (Q (.int (if j < i then j else i)) μ) := ⟨fun q => w_min2 q⟩
instance st_sl {tlo thi : TO2} : Step (dSl te2 tlo thi ρ μ Q) ((te2 ρ μ fun x μ1 => tlo ρ μ1 fun lo μ2 => thi ρ μ2 fun hi μ3 => dCut x lo hi μ3 Q)) := ⟨fun q => w_sl q⟩
instance st_noPart {QO : Option Int → Mu → Prop} : Step (dNoPart ρ μ QO) (QO none μ) := ⟨fun q => w_noPart q⟩
instance st_part {QO : Option Int → Mu → Prop} : Step (dPart te2 ρ μ QO) (te2 ρ μ (dPartK QO)) := ⟨fun q => w_part q⟩
instance st_partK {QO : Option Int → Mu → Prop} {i : Int} : Step (dPartK QO (.int i) μ) (QO (some i) μ) := ⟨fun q => w_partK q⟩
instance st_cutT {ds : List D} {lo hi : Option Int} : Step (dCut (.tup ds) lo hi μ Q) (Q (.tup (cutD ds lo hi)) μ) := ⟨fun q => w_cutT q⟩
instance st_drop {n b c : Env2 → Mu → Prop} {r : DK} : Step (dDrop te2 ⟨n, r, b, c⟩ ρ μ) ((te2 ρ μ fun _ μ1 => n ρ μ1)) := ⟨fun q => w_drop q⟩
instance st_bm {T : String} {r : DRM} : Step (dBM T r to2 tl2 ρ μ Q) ((to2 ρ μ fun x μ1 => dTy T x μ1 (tl2 ρ μ1 fun xs μ2 => r x xs μ2 Q))) := ⟨fun q => w_bm q⟩
instance st_bm0 {T : String} {r : DRM} : Step (dBM0 T r to2 ρ μ Q) ((to2 ρ μ fun x μ1 => dTy T x μ1 (r x [] μ1 Q))) := ⟨fun q => w_bm0 q⟩
instance st_m1 {r : D → D → Mu → DK → Prop} : Step (dM1 r to2 te2 ρ μ Q) ((to2 ρ μ fun x μ1 => dTy "str" x μ1 (te2 ρ μ1 fun y μ2 => r x y μ2 Q))) := ⟨fun q => w_m1 q⟩
instance st_tyS {z : Str} {P : Prop} : Step (dTy "str" (.str z) μ P) (P) := ⟨fun q => w_tyS q⟩
instance st_repl  : Step (dReplC to2 y z ρ μ Q) (to2 ρ μ (dReplK y z Q)) := ⟨fun q => w_repl q⟩
instance st_gIx {ti : TE2} {d : D} {QE : Env2 → Mu → Prop} : Step (gIx to2 ti d ρ μ QE) ((to2 ρ μ fun o μ1 => ti ρ μ1 fun i μ2 => gIxK d ρ QE o i μ2)) := ⟨fun q => w_gIx q⟩
instance st_gCons {t : TG2} {u : TGs2} {d : D} {r : List D} {QE : Env2 → Mu → Prop} : Step (gCons2 t u (d :: r) ρ μ QE) ((t d ρ μ fun ρ1 μ1 => u r ρ1 μ1 QE)) := ⟨fun q => w_gCons q⟩
instance st_gNil {QE : Env2 → Mu → Prop} : Step (gNil2 [] ρ μ QE) (QE ρ μ) := ⟨fun q => w_gNil q⟩
instance st_next {n b c : Env2 → Mu → Prop} {r : DK} : Step (dNext ⟨n, r, b, c⟩ ρ μ) (n ρ μ) := ⟨fun q => w_next q⟩
instance st_for {wi : TI2} {g : TG2} : Step (dFor wi g ts2 D2 ρ μ) ((wi ρ μ fun xs G μ1 => Cl (dTurns G g ts2 D2 xs) ρ μ1)) := ⟨fun q => w_for q⟩
instance st_jL {R : List D → (Mu → Prop) → Mu → Prop} : Step (jL te2 ρ μ R) (te2 ρ μ (jLK R)) := ⟨fun q => w_jL q⟩
instance st_jT {R : List D → (Mu → Prop) → Mu → Prop} : Step (jT te2 ρ μ R) (te2 ρ μ (jTK R)) := ⟨fun q => w_jT q⟩
instance st_jTK {R : List D → (Mu → Prop) → Mu → Prop} {ds : List D} : Step (jTK R (.tup ds) μ) ((R ds (fun _ => True) μ)) := ⟨fun q => w_jTK q⟩
instance st_jS {R : List D → (Mu → Prop) → Mu → Prop} : Step (jS te2 ρ μ R) (te2 ρ μ (jSK R)) := ⟨fun q => w_jS q⟩
instance st_jSK {R : List D → (Mu → Prop) → Mu → Prop} {z : Str} : Step (jSK R (.str z) μ) ((R (sgnD z) (fun _ => True) μ)) := ⟨fun q => w_jSK q⟩
instance st_jR1 {R : List D → (Mu → Prop) → Mu → Prop} : Step (jR1 tl2 ρ μ R) (tl2 ρ μ (jR1K R)) := ⟨fun q => w_jR1 q⟩
instance st_jR2 {R : List D → (Mu → Prop) → Mu → Prop} : Step (jR2 tl2 ρ μ R) (tl2 ρ μ (jR2K R)) := ⟨fun q => w_jR2 q⟩
instance st_jZ {R : List D → (Mu → Prop) → Mu → Prop} : Step (jZ tl2 ρ μ R) (tl2 ρ μ (jZK R)) := ⟨fun q => w_jZ q⟩
instance st_jZT {R : List D → (Mu → Prop) → Mu → Prop} {ds es : List D} : Step (jZK R [.tup ds, .tup es] μ) ((R (prsD ds es) (fun _ => True) μ)) := ⟨fun q => w_jZT q⟩
instance st_jE {R : List D → (Mu → Prop) → Mu → Prop} : Step (jE tl2 ρ μ R) (tl2 ρ μ (jEK R)) := ⟨fun q => w_jE q⟩
instance st_jV {R : List D → (Mu → Prop) → Mu → Prop} : Step (jV te2 ρ μ R) (te2 ρ μ (jVK R)) := ⟨fun q => w_jV q⟩
instance st_jVT {R : List D → (Mu → Prop) → Mu → Prop} {ds : List D} : Step (jVK R (.tup ds) μ) ((R ds.reverse (fun _ => True) μ)) := ⟨fun q => w_jVT q⟩
instance st_revL  : Step (dRevL te2 ρ μ Q) (te2 ρ μ (dRevK Q)) := ⟨fun q => w_revL q⟩
instance st_lc {wi : TI2} {g : TG2} {vs : List Nat} : Step (dLc wi g tt2 te2 vs ρ μ Q) ((wi ρ μ fun xs G μ1 => dLcs G g tt2 te2 (wipe2 ρ vs) Q xs [] μ1)) := ⟨fun q => w_lc q⟩
instance st_yes  : Step (dYes ρ μ T F) (T μ) := ⟨fun q => w_yes q⟩
instance st_isiT {cs : List String} : Step (dIsiT cs ta2 ρ μ Q) (ta2 ρ μ (dIsiTK cs Q)) := ⟨fun q => w_isiT q⟩
instance st_fld  : Step (dFld C f ta2 ρ μ Q) (ta2 ρ μ (dFldK C f Q)) := ⟨fun q => w_fld q⟩
instance st_putF {n b c : Env2 → Mu → Prop} {r : DK} : Step (dPutF C f ta2 tb2 ⟨n, r, b, c⟩ ρ μ) ((tb2 ρ μ fun v μ1 => ta2 ρ μ1 (dPutFK C f v (n ρ)))) := ⟨fun q => w_putF q⟩
instance st_meth  : Step (dMeth C m sp to2 tl2 ρ μ Q) ((to2 ρ μ fun d μ1 => dMethK C m (tl2 ρ μ1 fun ds μ2 => sp (d :: ds) μ2 Q NoX) d μ1)) := ⟨fun q => w_meth q⟩
instance st_make  : Step (dMake C sp tl2 ρ μ Q) (tl2 ρ μ (dMakeK C sp Q)) := ⟨fun q => w_make q⟩
instance st_fzO  : Step (dFzO C te2 ρ μ Q) (te2 ρ μ (dFzOK C Q)) := ⟨fun q => w_fzO q⟩
instance st_fmt  : Step (dFmt te2 ρ μ Q) (te2 ρ μ (dFmtK Q)) := ⟨fun q => w_fmt q⟩
instance st_js0 {acc : Str} : Step (dJs [] acc ρ μ Q) (Q (.str acc) μ) := ⟨fun q => w_js0 q⟩
instance st_js {t : TE2} {ts : List TE2} {acc : Str} : Step (dJs (t :: ts) acc ρ μ Q) (t ρ μ (dJsK ts acc ρ Q)) := ⟨fun q => w_js q⟩
instance st_ss  : Step (dSS ta2 ρ μ Q) (ta2 ρ μ (dSSK Q)) := ⟨fun q => w_ss q⟩
instance st_get2  : Step (dGet2 to2 te2 tf2 ρ μ Q) ((to2 ρ μ fun x μ1 => dGet2K (te2 ρ μ1 fun y μ2 => tf2 ρ μ2 (dGet2L x y Q)) x μ1)) := ⟨fun q => w_get2 q⟩
/-! what a built-in class tells of what was written out -/
instance st_lenL {ds : List D} : Step (dLen [.lst ds] μ Q) (Q (.int ds.length) μ) := ⟨fun q => w_lenL rfl q⟩
instance st_jLKl {R : List D → (Mu → Prop) → Mu → Prop} {ds : List D} : Step (jLK R (.lst ds) μ) (R ds (Still (.lst ds) ds) μ) := ⟨fun q => w_jLK rfl q⟩
instance st_jELl {R : List D → (Mu → Prop) → Mu → Prop} {ds : List D} : Step (jEK R [.lst ds] μ) (R (enuD 0 ds) (Still (.lst ds) ds) μ) := ⟨fun q => w_jEL rfl q⟩
instance st_jVLl {R : List D → (Mu → Prop) → Mu → Prop} {ds : List D} : Step (jVK R (.lst ds) μ) (R ds.reverse (Still (.lst ds) ds) μ) := ⟨fun q => w_jVL rfl q⟩
instance st_jZLl {R : List D → (Mu → Prop) → Mu → Prop} {ds es : List D} : Step (jZK R [.lst ds, .lst es] μ) (R (prsD ds es) (fun μ => Still (.lst ds) ds μ ∧ Still (.lst es) es μ) μ) := ⟨fun q => w_jZL rfl rfl q⟩
instance st_tyLl {ds : List D} {P : Prop} : Step (dTy "list" (.lst ds) μ P) P := ⟨fun q => w_tyL rfl q⟩
instance st_tupOfT {ds : List D} : Step (dTupOf [.tup ds] μ Q) (Q (.tup ds) μ) := ⟨fun q => w_tupOf rfl q⟩
instance st_tupOfL {ds : List D} : Step (dTupOf [.lst ds] μ Q) (Q (.tup ds) μ) := ⟨fun q => w_tupOf rfl q⟩
instance st_fzLi {i : Int} : Step (dFzLK Q (.int i) μ) (Q (.int i) μ) := ⟨fun q => w_fzL0 q⟩
instance st_fzLs {i : Str} : Step (dFzLK Q (.str i) μ) (Q (.str i) μ) := ⟨fun q => w_fzL0 q⟩
instance st_fzLt {i : List D} : Step (dFzLK Q (.tup i) μ) (Q (.tup i) μ) := ⟨fun q => w_fzL0 q⟩
instance st_fzLl {i : List D} : Step (dFzLK Q (.lst i) μ) (Q (.lst i) μ) := ⟨fun q => w_fzL0 q⟩
instance st_brT {A B : Prop} : Step (Br true A B) A := ⟨br_t⟩
instance st_brF {A B : Prop} : Step (Br false A B) B := ⟨br_f⟩
instance st_brN {b : Bool} {A B : Prop} : Step (Br (!b) A B) (Br b B A) := ⟨br_not⟩
instance st_brA {a b : Bool} {A B : Prop} : Step (Br (a && b) A B) (Br a (Br b A B) B) := ⟨br_and⟩
instance st_brO {a b : Bool} {A B : Prop} : Step (Br (a || b) A B) (Br a A (Br b A B)) := ⟨br_or⟩
instance st_isi_non_int  : Step (dIsi [.non, .ty "int"] μ Q) (Q (.bl false) μ) := ⟨fun q => w_isi rfl isi_ni q⟩
instance st_isi_non_bool  : Step (dIsi [.non, .ty "bool"] μ Q) (Q (.bl false) μ) := ⟨fun q => w_isi rfl isi_nb q⟩
instance st_isi_non_str  : Step (dIsi [.non, .ty "str"] μ Q) (Q (.bl false) μ) := ⟨fun q => w_isi rfl isi_ns q⟩
instance st_isi_non_list  : Step (dIsi [.non, .ty "list"] μ Q) (Q (.bl false) μ) := ⟨fun q => w_isi rfl isi_nl q⟩
instance st_isi_non_tuple  : Step (dIsi [.non, .ty "tuple"] μ Q) (Q (.bl false) μ) := ⟨fun q => w_isi rfl isi_nt q⟩
instance st_isi_bl_int {v : Bool} : Step (dIsi [(.bl v), .ty "int"] μ Q) (Q (.bl true) μ) := ⟨fun q => w_isi rfl isi_bi q⟩
instance st_isi_bl_bool {v : Bool} : Step (dIsi [(.bl v), .ty "bool"] μ Q) (Q (.bl true) μ) := ⟨fun q => w_isi rfl isi_bb q⟩
instance st_isi_bl_str {v : Bool} : Step (dIsi [(.bl v), .ty "str"] μ Q) (Q (.bl false) μ) := ⟨fun q => w_isi rfl isi_bs q⟩
instance st_isi_bl_list {v : Bool} : Step (dIsi [(.bl v), .ty "list"] μ Q) (Q (.bl false) μ) := ⟨fun q => w_isi rfl isi_bl q⟩
instance st_isi_bl_tuple {v : Bool} : Step (dIsi [(.bl v), .ty "tuple"] μ Q) (Q (.bl false) μ) := ⟨fun q => w_isi rfl isi_bt q⟩
instance st_isi_int_int {v : Int} : Step (dIsi [(.int v), .ty "int"] μ Q) (Q (.bl true) μ) := ⟨fun q => w_isi rfl isi_ii q⟩
instance st_isi_int_bool {v : Int} : Step (dIsi [(.int v), .ty "bool"] μ Q) (Q (.bl false) μ) := ⟨fun q => w_isi rfl isi_ib q⟩
instance st_isi_int_str {v : Int} : Step (dIsi [(.int v), .ty "str"] μ Q) (Q (.bl false) μ) := ⟨fun q => w_isi rfl isi_is q⟩
instance st_isi_int_list {v : Int} : Step (dIsi [(.int v), .ty "list"] μ Q) (Q (.bl false) μ) := ⟨fun q => w_isi rfl isi_il q⟩
instance st_isi_int_tuple {v : Int} : Step (dIsi [(.int v), .ty "tuple"] μ Q) (Q (.bl false) μ) := ⟨fun q => w_isi rfl isi_it q⟩
instance st_isi_str_int {v : Str} : Step (dIsi [(.str v), .ty "int"] μ Q) (Q (.bl false) μ) := ⟨fun q => w_isi rfl isi_si q⟩
instance st_isi_str_bool {v : Str} : Step (dIsi [(.str v), .ty "bool"] μ Q) (Q (.bl false) μ) := ⟨fun q => w_isi rfl isi_sb q⟩
instance st_isi_str_str {v : Str} : Step (dIsi [(.str v), .ty "str"] μ Q) (Q (.bl true) μ) := ⟨fun q => w_isi rfl isi_ss q⟩
instance st_isi_str_list {v : Str} : Step (dIsi [(.str v), .ty "list"] μ Q) (Q (.bl false) μ) := ⟨fun q => w_isi rfl isi_sl q⟩
instance st_isi_str_tuple {v : Str} : Step (dIsi [(.str v), .ty "tuple"] μ Q) (Q (.bl false) μ) := ⟨fun q => w_isi rfl isi_st q⟩
instance st_isi_tup_int {v : List D} : Step (dIsi [(.tup v), .ty "int"] μ Q) (Q (.bl false) μ) := ⟨fun q => w_isi rfl isi_ti q⟩
instance st_isi_tup_bool {v : List D} : Step (dIsi [(.tup v), .ty "bool"] μ Q) (Q (.bl false) μ) := ⟨fun q => w_isi rfl isi_tb q⟩
instance st_isi_tup_str {v : List D} : Step (dIsi [(.tup v), .ty "str"] μ Q) (Q (.bl false) μ) := ⟨fun q => w_isi rfl isi_ts q⟩
instance st_isi_tup_list {v : List D} : Step (dIsi [(.tup v), .ty "list"] μ Q) (Q (.bl false) μ) := ⟨fun q => w_isi rfl isi_tl q⟩
instance st_isi_tup_tuple {v : List D} : Step (dIsi [(.tup v), .ty "tuple"] μ Q) (Q (.bl true) μ) := ⟨fun q => w_isi rfl isi_tt q⟩
instance st_isi_lst_int {v : List D} : Step (dIsi [(.lst v), .ty "int"] μ Q) (Q (.bl false) μ) := ⟨fun q => w_isi rfl isi_li q⟩
instance st_isi_lst_bool {v : List D} : Step (dIsi [(.lst v), .ty "bool"] μ Q) (Q (.bl false) μ) := ⟨fun q => w_isi rfl isi_lb q⟩
instance st_isi_lst_str {v : List D} : Step (dIsi [(.lst v), .ty "str"] μ Q) (Q (.bl false) μ) := ⟨fun q => w_isi rfl isi_ls q⟩
instance st_isi_lst_list {v : List D} : Step (dIsi [(.lst v), .ty "list"] μ Q) (Q (.bl true) μ) := ⟨fun q => w_isi rfl isi_ll q⟩
instance st_isi_lst_tuple {v : List D} : Step (dIsi [(.lst v), .ty "tuple"] μ Q) (Q (.bl false) μ) := ⟨fun q => w_isi rfl isi_lt q⟩
instance st_eq_int_int {v1 : Int} {v2 : Int} : Step (dEq (.int v1) (.int v2) μ Q) (Q (.bl (decide (v1 = v2))) μ) := ⟨fun q => w_eqS rfl q⟩
instance st_ne_int_int {v1 : Int} {v2 : Int} : Step (dNe (.int v1) (.int v2) μ Q) (Q (.bl (!(decide (v1 = v2)))) μ) := ⟨fun q => w_neS rfl q⟩
instance st_eq_bl_bl {v1 : Bool} {v2 : Bool} : Step (dEq (.bl v1) (.bl v2) μ Q) (Q (.bl (decide (v1 = v2))) μ) := ⟨fun q => w_eqS rfl q⟩
instance st_ne_bl_bl {v1 : Bool} {v2 : Bool} : Step (dNe (.bl v1) (.bl v2) μ Q) (Q (.bl (!(decide (v1 = v2)))) μ) := ⟨fun q => w_neS rfl q⟩
instance st_eq_str_str {v1 : Str} {v2 : Str} : Step (dEq (.str v1) (.str v2) μ Q) (Q (.bl (decide (v1 = v2))) μ) := ⟨fun q => w_eqS rfl q⟩
instance st_ne_str_str {v1 : Str} {v2 : Str} : Step (dNe (.str v1) (.str v2) μ Q) (Q (.bl (!(decide (v1 = v2)))) μ) := ⟨fun q => w_neS rfl q⟩
instance st_eq_non_non   : Step (dEq .non .non μ Q) (Q (.bl (true)) μ) := ⟨fun q => w_eqS rfl q⟩
instance st_ne_non_non   : Step (dNe .non .non μ Q) (Q (.bl (!true)) μ) := ⟨fun q => w_neS rfl q⟩
instance st_eq_non_int  {v2 : Int} : Step (dEq .non (.int v2) μ Q) (Q (.bl (false)) μ) := ⟨fun q => w_eqS rfl q⟩
instance st_ne_non_int  {v2 : Int} : Step (dNe .non (.int v2) μ Q) (Q (.bl (!false)) μ) := ⟨fun q => w_neS rfl q⟩
instance st_eq_non_bl  {v2 : Bool} : Step (dEq .non (.bl v2) μ Q) (Q (.bl (false)) μ) := ⟨fun q => w_eqS rfl q⟩
instance st_ne_non_bl  {v2 : Bool} : Step (dNe .non (.bl v2) μ Q) (Q (.bl (!false)) μ) := ⟨fun q => w_neS rfl q⟩
instance st_eq_non_str  {v2 : Str} : Step (dEq .non (.str v2) μ Q) (Q (.bl (false)) μ) := ⟨fun q => w_eqS rfl q⟩
instance st_ne_non_str  {v2 : Str} : Step (dNe .non (.str v2) μ Q) (Q (.bl (!false)) μ) := ⟨fun q => w_neS rfl q⟩
instance st_eq_int_non {v1 : Int}  : Step (dEq (.int v1) .non μ Q) (Q (.bl (false)) μ) := ⟨fun q => w_eqS rfl q⟩
instance st_ne_int_non {v1 : Int}  : Step (dNe (.int v1) .non μ Q) (Q (.bl (!false)) μ) := ⟨fun q => w_neS rfl q⟩
instance st_eq_int_str {v1 : Int} {v2 : Str} : Step (dEq (.int v1) (.str v2) μ Q) (Q (.bl (false)) μ) := ⟨fun q => w_eqS rfl q⟩
instance st_ne_int_str {v1 : Int} {v2 : Str} : Step (dNe (.int v1) (.str v2) μ Q) (Q (.bl (!false)) μ) := ⟨fun q => w_neS rfl q⟩
instance st_eq_bl_non {v1 : Bool}  : Step (dEq (.bl v1) .non μ Q) (Q (.bl (false)) μ) := ⟨fun q => w_eqS rfl q⟩
instance st_ne_bl_non {v1 : Bool}  : Step (dNe (.bl v1) .non μ Q) (Q (.bl (!false)) μ) := ⟨fun q => w_neS rfl q⟩
instance st_eq_bl_str {v1 : Bool} {v2 : Str} : Step (dEq (.bl v1) (.str v2) μ Q) (Q (.bl (false)) μ) := ⟨fun q => w_eqS rfl q⟩
instance st_ne_bl_str {v1 : Bool} {v2 : Str} : Step (dNe (.bl v1) (.str v2) μ Q) (Q (.bl (!false)) μ) := ⟨fun q => w_neS rfl q⟩
instance st_eq_str_non {v1 : Str}  : Step (dEq (.str v1) .non μ Q) (Q (.bl (false)) μ) := ⟨fun q => w_eqS rfl q⟩
instance st_ne_str_non {v1 : Str}  : Step (dNe (.str v1) .non μ Q) (Q (.bl (!false)) μ) := ⟨fun q => w_neS rfl q⟩
instance st_eq_str_int {v1 : Str} {v2 : Int} : Step (dEq (.str v1) (.int v2) μ Q) (Q (.bl (false)) μ) := ⟨fun q => w_eqS rfl q⟩
instance st_ne_str_int {v1 : Str} {v2 : Int} : Step (dNe (.str v1) (.int v2) μ Q) (Q (.bl (!false)) μ) := ⟨fun q => w_neS rfl q⟩
instance st_eq_str_bl {v1 : Str} {v2 : Bool} : Step (dEq (.str v1) (.bl v2) μ Q) (Q (.bl (false)) μ) := ⟨fun q => w_eqS rfl q⟩
instance st_ne_str_bl {v1 : Str} {v2 : Bool} : Step (dNe (.str v1) (.bl v2) μ Q) (Q (.bl (!false)) μ) := ⟨fun q => w_neS rfl q⟩
instance st_isN_bl {v : Bool} : Step (dIsN (.bl v) .non μ Q) (Q (.bl false) μ) := ⟨fun q => w_isN0 (fun z => nomatch z) q⟩
instance st_notN_bl {v : Bool} : Step (dNotN (.bl v) .non μ Q) (Q (.bl true) μ) := ⟨fun q => w_notN0 (fun z => nomatch z) q⟩
instance st_isN_int {v : Int} : Step (dIsN (.int v) .non μ Q) (Q (.bl false) μ) := ⟨fun q => w_isN0 (fun z => nomatch z) q⟩
instance st_notN_int {v : Int} : Step (dNotN (.int v) .non μ Q) (Q (.bl true) μ) := ⟨fun q => w_notN0 (fun z => nomatch z) q⟩
instance st_isN_str {v : Str} : Step (dIsN (.str v) .non μ Q) (Q (.bl false) μ) := ⟨fun q => w_isN0 (fun z => nomatch z) q⟩
instance st_notN_str {v : Str} : Step (dNotN (.str v) .non μ Q) (Q (.bl true) μ) := ⟨fun q => w_notN0 (fun z => nomatch z) q⟩
instance st_isN_tup {v : List D} : Step (dIsN (.tup v) .non μ Q) (Q (.bl false) μ) := ⟨fun q => w_isN0 (fun z => nomatch z) q⟩
instance st_notN_tup {v : List D} : Step (dNotN (.tup v) .non μ Q) (Q (.bl true) μ) := ⟨fun q => w_notN0 (fun z => nomatch z) q⟩
instance st_isN_lst {v : List D} : Step (dIsN (.lst v) .non μ Q) (Q (.bl false) μ) := ⟨fun q => w_isN0 (fun z => nomatch z) q⟩
instance st_notN_lst {v : List D} : Step (dNotN (.lst v) .non μ Q) (Q (.bl true) μ) := ⟨fun q => w_notN0 (fun z => nomatch z) q⟩
instance st_isN_adr {v : Addr} : Step (dIsN (.adr v) .non μ Q) (Q (.bl false) μ) := ⟨fun q => w_isN0 (fun z => nomatch z) q⟩
instance st_notN_adr {v : Addr} : Step (dNotN (.adr v) .non μ Q) (Q (.bl true) μ) := ⟨fun q => w_notN0 (fun z => nomatch z) q⟩
instance st_notN_obj {v : Addr} {ns : List Str} {ds : List D} : Step (dNotN (.obj v ns ds) .non μ Q) (Q (.bl true) μ) := ⟨fun q => w_notN0 (fun z => nomatch z) q⟩
instance st_isN_obj {v : Addr} {ns : List Str} {ds : List D} : Step (dIsN (.obj v ns ds) .non μ Q) (Q (.bl false) μ) := ⟨fun q => w_isN0 (fun z => nomatch z) q⟩
end
/-! groups of heads -/
class HdA (A : Prop) : Prop where
  go : A → A
class HdB (A : Prop) : Prop where
  go : A → A
class HdC (A : Prop) : Prop where
  go : A → A
class HdE (A : Prop) : Prop where
  go : A → A
instance hd_dTupK {a0} {a1} {a2} : HdA (dTupK a0 a1 a2) := ⟨fun q => q⟩
instance hd_dFzK {a0} {a1} {a2} : HdA (dFzK a0 a1 a2) := ⟨fun q => q⟩
instance hd_dFzLK {a0} {a1} {a2} : HdA (dFzLK a0 a1 a2) := ⟨fun q => q⟩
instance hd_dDisp {a0} {a1} {a2} {a3} : HdC (dDisp a0 a1 a2 a3) := ⟨fun q => q⟩
instance hd_dDNew {a0} {a1} {a2} : HdC (dDNew a0 a1 a2) := ⟨fun q => q⟩
instance hd_dListText {a0} {a1} {a2} : HdE (dListText a0 a1 a2) := ⟨fun q => q⟩
instance hd_dTupText {a0} {a1} {a2} : HdE (dTupText a0 a1 a2) := ⟨fun q => q⟩
instance hd_dDispK {a0} {a1} {a2} {a3} : HdC (dDispK a0 a1 a2 a3) := ⟨fun q => q⟩
instance hd_dDGet {a0} {a1} {a2} {a3} : HdC (dDGet a0 a1 a2 a3) := ⟨fun q => q⟩
instance hd_dInD {a0} {a1} {a2} {a3} : HdC (dInD a0 a1 a2 a3) := ⟨fun q => q⟩
instance hd_dNotInD {a0} {a1} {a2} {a3} : HdC (dNotInD a0 a1 a2 a3) := ⟨fun q => q⟩
instance hd_dNewL {a0} {a1} {a2} : HdB (dNewL a0 a1 a2) := ⟨fun q => q⟩
instance hd_dAdd {a0} {a1} {a2} {a3} : HdA (dAdd a0 a1 a2 a3) := ⟨fun q => q⟩
instance hd_dMulA {a0} {a1} {a2} {a3} : HdE (dMulA a0 a1 a2 a3) := ⟨fun q => q⟩
instance hd_dMod {a0} {a1} {a2} {a3} : HdE (dMod a0 a1 a2 a3) := ⟨fun q => q⟩
instance hd_dFdiv {a0} {a1} {a2} {a3} : HdE (dFdiv a0 a1 a2 a3) := ⟨fun q => q⟩
instance hd_dPow {a0} {a1} {a2} {a3} : HdE (dPow a0 a1 a2 a3) := ⟨fun q => q⟩
instance hd_dShl {a0} {a1} {a2} {a3} : HdE (dShl a0 a1 a2 a3) := ⟨fun q => q⟩
instance hd_dShr {a0} {a1} {a2} {a3} : HdE (dShr a0 a1 a2 a3) := ⟨fun q => q⟩
instance hd_dEq {a0} {a1} {a2} {a3} : HdA (dEq a0 a1 a2 a3) := ⟨fun q => q⟩
instance hd_dNe {a0} {a1} {a2} {a3} : HdA (dNe a0 a1 a2 a3) := ⟨fun q => q⟩
instance hd_dIsN {a0} {a1} {a2} {a3} : HdE (dIsN a0 a1 a2 a3) := ⟨fun q => q⟩
instance hd_dNotN {a0} {a1} {a2} {a3} : HdE (dNotN a0 a1 a2 a3) := ⟨fun q => q⟩
instance hd_dIx {a0} {a1} {a2} {a3} : HdA (dIx a0 a1 a2 a3) := ⟨fun q => q⟩
instance hd_dLen {a0} {a1} {a2} : HdA (dLen a0 a1 a2) := ⟨fun q => q⟩
instance hd_jRv1K {a0} {a1} {a2} : HdE (jRv1K a0 a1 a2) := ⟨fun q => q⟩
instance hd_dLstRg1K {a0} {a1} {a2} : HdE (dLstRg1K a0 a1 a2) := ⟨fun q => q⟩
instance hd_dIsi {a0} {a1} {a2} : HdE (dIsi a0 a1 a2) := ⟨fun q => q⟩
instance hd_dTupOf {a0} {a1} {a2} : HdE (dTupOf a0 a1 a2) := ⟨fun q => q⟩
instance hd_dListOf {a0} {a1} {a2} : HdE (dListOf a0 a1 a2) := ⟨fun q => q⟩
instance hd_dCut {a0} {a1} {a2} {a3} {a4} : HdA (dCut a0 a1 a2 a3 a4) := ⟨fun q => q⟩
instance hd_dTy {a0} {a1} {a2} {a3} : HdB (dTy a0 a1 a2 a3) := ⟨fun q => q⟩
instance hd_dApp {a0} {a1} {a2} {a3} : HdB (dApp a0 a1 a2 a3) := ⟨fun q => q⟩
instance hd_dExtend {a0} {a1} {a2} {a3} : HdE (dExtend a0 a1 a2 a3) := ⟨fun q => q⟩
instance hd_dClear {a0} {a1} {a2} {a3} : HdE (dClear a0 a1 a2 a3) := ⟨fun q => q⟩
instance hd_dReverse {a0} {a1} {a2} {a3} : HdE (dReverse a0 a1 a2 a3) := ⟨fun q => q⟩
instance hd_gIxK {a0} {a1} {a2} {a3} {a4} {a5} : HdB (gIxK a0 a1 a2 a3 a4 a5) := ⟨fun q => q⟩
instance hd_gUn {a0} {a1} {a2} {a3} {a4} {a5} : HdB (gUn a0 a1 a2 a3 a4 a5) := ⟨fun q => q⟩
instance hd_gCons2 {a0} {a1} {a2} {a3} {a4} {a5} : HdB (gCons2 a0 a1 a2 a3 a4 a5) := ⟨fun q => q⟩
instance hd_gNil2 {a0} {a1} {a2} {a3} : HdB (gNil2 a0 a1 a2 a3) := ⟨fun q => q⟩
instance hd_jLK {a0} {a1} {a2} : HdB (jLK a0 a1 a2) := ⟨fun q => q⟩
instance hd_jR1K {a0} {a1} {a2} : HdB (jR1K a0 a1 a2) := ⟨fun q => q⟩
instance hd_jR2K {a0} {a1} {a2} : HdB (jR2K a0 a1 a2) := ⟨fun q => q⟩
instance hd_jZK {a0} {a1} {a2} : HdB (jZK a0 a1 a2) := ⟨fun q => q⟩
instance hd_jEK {a0} {a1} {a2} : HdB (jEK a0 a1 a2) := ⟨fun q => q⟩
instance hd_jVK {a0} {a1} {a2} : HdB (jVK a0 a1 a2) := ⟨fun q => q⟩
instance hd_dRevK {a0} {a1} {a2} : HdE (dRevK a0 a1 a2) := ⟨fun q => q⟩
instance hd_dLcK {a0} {a1} {a2} {a3} {a4} {a5} {a6} {a7} {a8} {a9} : HdB (dLcK a0 a1 a2 a3 a4 a5 a6 a7 a8 a9) := ⟨fun q => q⟩
instance hd_dIsiTK {a0} {a1} {a2} {a3} : HdE (dIsiTK a0 a1 a2 a3) := ⟨fun q => q⟩
instance hd_dFldK {a0} {a1} {a2} {a3} {a4} : HdC (dFldK a0 a1 a2 a3 a4) := ⟨fun q => q⟩
instance hd_dPutFK {a0} {a1} {a2} {a3} {a4} {a5} : HdC (dPutFK a0 a1 a2 a3 a4 a5) := ⟨fun q => q⟩
instance hd_dMethK {a0} {a1} {a2} {a3} {a4} : HdC (dMethK a0 a1 a2 a3 a4) := ⟨fun q => q⟩
instance hd_dFzOK {a0} {a1} {a2} {a3} : HdC (dFzOK a0 a1 a2 a3) := ⟨fun q => q⟩
instance hd_dFmtK {a0} {a1} {a2} : HdC (dFmtK a0 a1 a2) := ⟨fun q => q⟩
instance hd_dJsK {a0} {a1} {a2} {a3} {a4} {a5} : HdC (dJsK a0 a1 a2 a3 a4 a5) := ⟨fun q => q⟩
instance hd_dStrI {a0} {a1} {a2} : HdC (dStrI a0 a1 a2) := ⟨fun q => q⟩
instance hd_dGet2K {a0} {a1} {a2} : HdC (dGet2K a0 a1 a2) := ⟨fun q => q⟩
instance hd_dGet2L {a0} {a1} {a2} {a3} {a4} : HdC (dGet2L a0 a1 a2 a3 a4) := ⟨fun q => q⟩
instance hd_dIxKd {a0} {a1} {a2} {a3} {a4} {a5} : HdC (dIxKd a0 a1 a2 a3 a4 a5) := ⟨fun q => q⟩
instance hd_dNotInKd {a0} {a1} {a2} {a3} {a4} {a5} : HdC (dNotInKd a0 a1 a2 a3 a4 a5) := ⟨fun q => q⟩
instance hd_dIsO {a0} {a1} {a2} {a3} : HdC (dIsO a0 a1 a2 a3) := ⟨fun q => q⟩
end Y

set_option Elab.async false
set_option linter.all false
set_option maxRecDepth 100000
set_option maxHeartbeats 4000000
namespace Y
open PySem PySem.Spec PyProof.Rows L2
/-! loops over what is known -/
variable {ρ : Env2} {μ : Mu} {Q : DK} {tt2 : TT2} {te2 : TE2} {ts2 : TS2} {G : Mu → Prop} {g : TG2} {n b c : Env2 → Mu → Prop} {r : DK} {α : Type}
/-- by what holds between the turns, whatever is left -/
theorem w_turnsM {xs : List D} (M : Env2 → Mu → Prop) (hG : ∀ ρ μ, M ρ μ → G μ)
    (hs : ∀ d ∈ xs, ∀ ρ μ, M ρ μ → ∀ N : Env2 → Mu → Prop, (∀ ρ μ, M ρ μ → N ρ μ) → g d ρ μ fun ρ2 μ2 => ts2 ⟨Cl N, r, n, Cl N⟩ ρ2 μ2) (hd : ∀ ρ μ, M ρ μ → n ρ μ) :
    ∀ ρ μ, M ρ μ → dTurns G g ts2 ⟨n, r, b, c⟩ xs ρ μ := fun ρ μ h =>
  w_turns (fun ys ρ μ => M ρ μ ∧ ∀ d ∈ ys, d ∈ xs) (fun _ _ _ h => hG _ _ h.1) (fun d ys ρ μ h N hN => hs d (h.2 d List.mem_cons_self) ρ μ h.1 N fun ρ μ h' => hN ρ μ ⟨h', fun e he => h.2 e (List.mem_cons_of_mem _ he)⟩) (fun ρ μ h => hd ρ μ h.1) xs ρ μ ⟨h, fun _ h => h⟩
/-- nothing is changed between the turns -/
theorem w_turnsC {xs : List D} (hG : G μ)
    (hs : ∀ d ∈ xs, ∀ N : Env2 → Mu → Prop, N ρ μ → g d ρ μ fun ρ2 μ2 => ts2 ⟨Cl N, r, n, Cl N⟩ ρ2 μ2) (hd : n ρ μ) :
    dTurns G g ts2 ⟨n, r, b, c⟩ xs ρ μ :=
  w_turnsM (fun ρ' μ' => ρ' = ρ ∧ μ' = μ) (fun _ _ h => h.2 ▸ hG) (fun d he ρ' μ' h N hN => by obtain ⟨rfl, rfl⟩ := h; exact hs d he N (hN _ _ ⟨rfl, rfl⟩)) (fun ρ' μ' h => by obtain ⟨rfl, rfl⟩ := h; exact hd) ρ μ ⟨rfl, rfl⟩
/-- by what was walked so far -/
theorem w_turnsI (f : α → D) {l : List α} (Iv : List α → Env2 → Mu → Prop) (hG : ∀ dn ρ μ, Iv dn ρ μ → G μ)
    (hs : ∀ dn x rs, l = dn ++ x :: rs → ∀ ρ μ, Iv dn ρ μ → ∀ N : Env2 → Mu → Prop, (∀ ρ μ, Iv (dn ++ [x]) ρ μ → N ρ μ) → g (f x) ρ μ fun ρ2 μ2 => ts2 ⟨Cl N, r, n, Cl N⟩ ρ2 μ2)
    (hd : ∀ ρ μ, Iv l ρ μ → n ρ μ) : ∀ ρ μ, Iv [] ρ μ → dTurns G g ts2 ⟨n, r, b, c⟩ (l.map f) ρ μ := fun ρ μ h =>
  w_turns (fun ys ρ μ => ∃ dn rs, l = dn ++ rs ∧ ys = rs.map f ∧ Iv dn ρ μ) (fun _ _ _ h => by obtain ⟨dn, rs, _, _, h⟩ := h; exact hG _ _ _ h)
    (fun d ys ρ μ h N hN => by
      obtain ⟨dn, rs, e1, e2, h⟩ := h
      cases rs with
      | nil => cases e2
      | cons x rs =>
        injection e2 with e2 e3
        subst e2
        exact hs dn x rs e1 ρ μ h N fun ρ μ h' => hN ρ μ ⟨dn ++ [x], rs, by rw [e1, List.append_assoc]; rfl, e3, h'⟩)
    (fun ρ μ h => by
      obtain ⟨dn, rs, e1, e2, h⟩ := h
      obtain rfl : rs = [] := by cases rs with | nil => rfl | cons _ _ => cases e2
      rw [List.append_nil] at e1
      subst e1
      exact hd ρ μ h) (l.map f) ρ μ ⟨[], l, rfl, rfl, h⟩
theorem rngD_map (lo : Int) (k : Nat) : rngD lo k = (List.range k).map fun i : Nat => D.int (lo + (i : Int)) := rfl
/-- .. over 0, 1, .. -/
theorem w_turnsR {k : Nat} {lo : Int} (Iv : Nat → Env2 → Mu → Prop) (hG : ∀ i ρ μ, Iv i ρ μ → G μ)
    (hs : ∀ i, i < k → ∀ ρ μ, Iv i ρ μ → ∀ N : Env2 → Mu → Prop, (∀ ρ μ, Iv (i + 1) ρ μ → N ρ μ) → g (.int (lo + (i : Nat))) ρ μ fun ρ2 μ2 => ts2 ⟨Cl N, r, n, Cl N⟩ ρ2 μ2)
    (hd : ∀ ρ μ, Iv k ρ μ → n ρ μ) : ∀ ρ μ, Iv 0 ρ μ → dTurns G g ts2 ⟨n, r, b, c⟩ (rngD lo k) ρ μ := fun ρ μ h => by
  rw [rngD_map]
  refine w_turnsI (fun i : Nat => D.int (lo + (i : Int))) (fun dn ρ μ => Iv dn.length ρ μ) (fun _ _ _ h => hG _ _ _ h) (fun dn x rs e ρ μ h N hN => ?_) (fun ρ μ h => hd ρ μ (by rw [List.length_range] at h; exact h)) ρ μ h
  have e2 : x = dn.length := by
    have h1 : (List.range k)[dn.length]? = some x := by rw [e, List.getElem?_append_right (Nat.le_refl _), Nat.sub_self]; rfl
    obtain ⟨h2, h3⟩ := List.getElem?_eq_some_iff.mp h1
    rw [List.getElem_range] at h3; exact h3.symm
  have h4 : dn.length < k := by
    have := congrArg List.length e
    rw [List.length_range, List.length_append, List.length_cons] at this; omega
  subst e2
  exact hs dn.length h4 ρ μ h N fun ρ μ h' => hN ρ μ (by rw [List.length_append]; exact h')
/-- enumerate -/
theorem enu_map {β : Type} (f : β → D) : ∀ (l : List β) (k : Nat), enuD k (l.map f) = (l.zipIdx k).map fun p => D.tup [.int ((p.2 : Nat) : Int), f p.1]
  | [], _ => rfl
  | x :: l, k => by
    show D.tup [.int (k : Int), f x] :: enuD (k + 1) (l.map f) = _
    rw [enu_map f l (k + 1)]; rfl
theorem w_turnsE (f : α → D) {l : List α} (Iv : List α → Env2 → Mu → Prop) (hG : ∀ dn ρ μ, Iv dn ρ μ → G μ)
    (hs : ∀ dn x rs, l = dn ++ x :: rs → ∀ ρ μ, Iv dn ρ μ → ∀ N : Env2 → Mu → Prop, (∀ ρ μ, Iv (dn ++ [x]) ρ μ → N ρ μ) → g (.tup [.int (dn.length : Nat), f x]) ρ μ fun ρ2 μ2 => ts2 ⟨Cl N, r, n, Cl N⟩ ρ2 μ2)
    (hd : ∀ ρ μ, Iv l ρ μ → n ρ μ) : ∀ ρ μ, Iv [] ρ μ → dTurns G g ts2 ⟨n, r, b, c⟩ (enuD 0 (l.map f)) ρ μ := fun ρ μ h => by
  rw [enu_map]
  refine w_turnsI (fun p : α × Nat => D.tup [.int ((p.2 : Nat) : Int), f p.1]) (fun dn ρ μ => Iv (dn.map (·.1)) ρ μ) (fun _ _ _ h => hG _ _ _ h) (fun dn x rs e ρ μ h N hN => ?_) (fun ρ μ h => hd ρ μ ?_) ρ μ h
  · have e1 : l = dn.map (·.1) ++ x.1 :: rs.map (·.1) := by
      have := congrArg (List.map (·.1)) e
      rw [List.map_append, List.map_cons, List.zipIdx_map_fst] at this; exact this
    have e2 : x.2 = dn.length := by
      have h1 : (l.zipIdx)[dn.length]? = some x := by rw [e, List.getElem?_append_right (Nat.le_refl _), Nat.sub_self]; rfl
      rw [List.getElem?_zipIdx] at h1
      cases q : l[dn.length]? with
      | none => rw [q] at h1; cases h1
      | some y => rw [q] at h1; cases h1; simp
    have := hs (dn.map (·.1)) x.1 (rs.map (·.1)) e1 ρ μ h N fun ρ μ h' => hN ρ μ (by rw [List.map_append]; exact h')
    rw [List.length_map, ← e2] at this
    exact this
  · rw [List.zipIdx_map_fst] at h; exact h
/-- comprehensions: what was walked, what was made -/
theorem w_lcI (f : α → D) {l : List α} (Iv : List α → List D → Mu → Prop) (hG : ∀ dn acc μ, Iv dn acc μ → G μ ∧ acc.length < sizeLine)
    (hs : ∀ dn x rs, l = dn ++ x :: rs → ∀ acc μ, Iv dn acc μ → ∀ (N : DK) (N0 : Mu → Prop), (∀ d μ', Iv (dn ++ [x]) (acc ++ [d]) μ' → N d μ') → (∀ μ', Iv (dn ++ [x]) acc μ' → N0 μ') → g (f x) ρ μ fun ρ2 μ2 => tt2 ρ2 μ2 (fun μ3 => te2 ρ2 μ3 N) N0)
    (hd : ∀ acc μ, Iv l acc μ → ∀ p, μ p = none → Q (.adr p) (mup μ p (.lst acc))) : ∀ μ, Iv [] [] μ → dLcs G g tt2 te2 ρ Q (l.map f) [] μ := fun μ h =>
  w_lcInv (fun ys acc μ => ∃ dn rs, l = dn ++ rs ∧ ys = rs.map f ∧ Iv dn acc μ) (fun _ _ _ h => by obtain ⟨dn, rs, _, _, h⟩ := h; exact hG _ _ _ h)
    (fun d ys acc μ h N N0 hN hN0 => by
      obtain ⟨dn, rs, e1, e2, h⟩ := h
      cases rs with
      | nil => cases e2
      | cons x rs =>
        injection e2 with e2 e3
        subst e2
        exact hs dn x rs e1 acc μ h N N0 (fun d μ' h' => hN d μ' ⟨dn ++ [x], rs, by rw [e1, List.append_assoc]; rfl, e3, h'⟩) fun μ' h' => hN0 μ' ⟨dn ++ [x], rs, by rw [e1, List.append_assoc]; rfl, e3, h'⟩)
    (fun acc μ h => by
      obtain ⟨dn, rs, e1, e2, h⟩ := h
      obtain rfl : rs = [] := by cases rs with | nil => rfl | cons _ _ => cases e2
      rw [List.append_nil] at e1
      subst e1
      exact hd acc μ h) (l.map f) [] μ ⟨[], l, rfl, rfl, h⟩
/-- .. where nothing is changed -/
theorem w_lcF (f : α → D) {l : List α} (h : α → Option D) (hG : G μ) (hl : l.length < sizeLine)
    (hs : ∀ x ∈ l, ∀ (N : DK) (N0 : Mu → Prop), (∀ d, h x = some d → N d μ) → (h x = none → N0 μ) → g (f x) ρ μ fun ρ2 μ2 => tt2 ρ2 μ2 (fun μ3 => te2 ρ2 μ3 N) N0)
    (hd : ∀ p, μ p = none → Q (.adr p) (mup μ p (.lst (l.filterMap h)))) : dLcs G g tt2 te2 ρ Q (l.map f) [] μ := by
  refine w_lcI f (fun dn acc μ' => μ' = μ ∧ acc = dn.filterMap h ∧ dn.length ≤ l.length) (fun dn acc μ' h' => ?_) (fun dn x rs e acc μ' h' N N0 hN hN0 => ?_) (fun acc μ' h' => ?_) μ ⟨rfl, rfl, Nat.zero_le _⟩
  · obtain ⟨rfl, rfl, h3⟩ := h'
    exact ⟨hG, Nat.lt_of_le_of_lt (Nat.le_trans (List.length_filterMap_le _ _) h3) hl⟩
  · obtain ⟨rfl, rfl, h3⟩ := h'
    have hl3 : (dn ++ [x]).length ≤ l.length := by rw [e, List.length_append, List.length_append, List.length_cons, List.length_cons, List.length_nil]; omega
    refine hs x (by rw [e]; exact List.mem_append_right _ List.mem_cons_self) N N0 (fun d hx => hN d _ ⟨rfl, ?_, hl3⟩) fun hx => hN0 _ ⟨rfl, ?_, hl3⟩
    · rw [List.filterMap_append, List.filterMap_cons, hx]; rfl
    · rw [List.filterMap_append, List.filterMap_cons, hx]; simp
  · obtain ⟨rfl, rfl, _⟩ := h'
    exact hd
theorem w_lcM (f : α → D) {l : List α} (h : α → D) (hG : G μ) (hl : l.length < sizeLine)
    (hs : ∀ x ∈ l, ∀ (N : DK) (N0 : Mu → Prop), N (h x) μ → g (f x) ρ μ fun ρ2 μ2 => tt2 ρ2 μ2 (fun μ3 => te2 ρ2 μ3 N) N0)
    (hd : ∀ p, μ p = none → Q (.adr p) (mup μ p (.lst (l.map h)))) : dLcs G g tt2 te2 ρ Q (l.map f) [] μ :=
  w_lcF f (fun x => some (h x)) hG hl (fun x hx N N0 hN _ => hs x hx N N0 (hN _ rfl)) (by rw [List.filterMap_eq_map']; exact hd)
end Y

set_option Elab.async false
set_option linter.all false
set_option maxRecDepth 100000
set_option maxHeartbeats 4000000
namespace Y
open PySem PySem.Spec PyProof.Rows L2
/-! the end: facts of the top, looked at by one run -/
abbrev Fb := PySem.W.Frag → Bool
abbrev AlY : Type := Bool × List He.FnV × List (Option (List (Option (Str × Int))))
def defB (K : PySem.W.Frag) (d : He.FnD) : Bool := (He.Fa.code d.at_ d.qual).ok K && PySem.W.keepIn K (.ref (He.fAd K d.at_))
def obsY (bs : List Fb) (fn : List He.FnD) (ts : List He.Tab) (K : PySem.W.Frag) : AlY := ((bs.all fun b => b K) && fn.all fun d => defB K d, fn.map fun d => He.fnObs K d.at_, ts.map fun t => He.dicW K (t.1 K))
def valY (fn : List He.FnD) (ts : List He.Tab) (w : World) : AlY := (true, fn.map He.FnD.val, ts.map fun t => some (He.keysIn w.params t.2))
def SaysY (bs : List Fb) (fn : List He.FnD) (ts : List He.Tab) (w : World) (K : PySem.W.Frag) : Prop := obsY bs fn ts K = valY fn ts w
/-- what is looked at: what the module's names stand for, classes' names, codes -/
def refsY (o : Obj) : List Addr := match o.data with
  | .dict es _ => es.toList.flatMap fun e => He.refV e.val
  | .func fd => He.refV fd.code
  | .cls cd => [cd.ns]
  | _ => []
def lvY (g : Addr → Option Obj) : Nat → List Addr → List Addr
  | 0, l => l
  | n + 1, l => l ++ lvY g n (l.flatMap fun a => match g a with
    | some o => refsY o
    | none => [])
def frY (g : Addr → Option Obj) (n : Nat) : PySem.W.Frag := He.frG g (PySem.cStatics :: lvY g n [mainGlobals])
def obsYG (n : Nat) (bs : List Fb) (fn : List He.FnD) (ts : List He.Tab) (g : Addr → Option Obj) : AlY := obsY bs fn ts (frY g n)
def hookY (n : Nat) (bs : List Fb) (fn : List He.FnD) (ts : List He.Tab) : PySem.W.Hook where
  α := AlY
  obs := fun s => obsYG n bs fn ts s.heap.get?
  val := fun w => valY fn ts w
  says := fun w h => ∃ K : PySem.W.Frag, K.In h ∧ SaysY bs fn ts w K
  of := fun _ _ e => ⟨_, He.frG_in, e⟩
  keeps := fun _ _ _ ⟨K, hK, c⟩ k => ⟨K, PySem.W.Frag.In.keeps hK k, c⟩
theorem obsYG_eq {n : Nat} {bs : List Fb} {fn : List He.FnD} {ts : List He.Tab} {g : Addr → Option Obj} {s : Shared} (h : ∀ a, g a = s.heap.get? a) : obsYG n bs fn ts g = (hookY n bs fn ts).obs s := by
  have e : g = s.heap.get? := funext h
  rw [e] <;> rfl
/-- a def by its statement -/
def fnD (at_ : Str × Option Str) (name qual : Str) (st : Stmt) : He.FnD := ⟨at_, name, qual, defArgs st, defBody st, defScope st⟩
section
variable {bs : List Fb} {fn : List He.FnD} {ts : List He.Tab} {w : World} {K : PySem.W.Frag}
theorem SaysY.b (c : SaysY bs fn ts w K) (i : Nat) {b : Fb} (h : bs[i]? = some b) : b K = true := by
  have c1 := (He.ba (show ((bs.all fun b => b K) && fn.all fun d => defB K d) = true from congrArg (fun z : AlY => z.1) c)).1
  exact List.all_eq_true.mp c1 b (List.mem_of_getElem? h)
theorem SaysY.df (c : SaysY bs fn ts w K) (i : Nat) {at_ : Str × Option Str} {name qual : Str} {st : Stmt} (h : fn[i]? = some (fnD at_ name qual st)) : ∃ fd, Fun K name qual st (He.fAd K at_) fd := by
  have c1 := (He.ba (show ((bs.all fun b => b K) && fn.all fun d => defB K d) = true from congrArg (fun z : AlY => z.1) c)).2
  obtain ⟨c2, kp⟩ := He.ba (show ((He.Fa.code (fnD at_ name qual st).at_ (fnD at_ name qual st).qual).ok K && PySem.W.keepIn K (.ref (He.fAd K (fnD at_ name qual st).at_))) = true from List.all_eq_true.mp c1 _ (List.mem_of_getElem? h))
  have e : fn.map (fun d => He.fnObs K d.at_) = fn.map He.FnD.val := congrArg (fun z : AlY => z.2.1) c
  have e2 : (fn.map fun d => He.fnObs K d.at_)[i]? = (fn.map He.FnD.val)[i]? := by rw [e]
  rw [List.getElem?_map, List.getElem?_map, h] at e2
  obtain ⟨oc, od, osl, kV, doc, pm, an, cdv, ct, lk, hc⟩ := He.fn_ok (d := fnD at_ name qual st) (Option.some.inj e2) c2
  exact ⟨_, fun_mk (st := st) lk hc kp⟩
theorem SaysY.tab (c : SaysY bs fn ts w K) (i : Nat) {t : He.Tab} (h : ts[i]? = some t) : ∃ es n, KDict K w (t.1 K) es n := by
  have e : ts.map (fun t => He.dicW K (t.1 K)) = ts.map fun t => some (He.keysIn w.params t.2) := congrArg (fun z : AlY => z.2.2) c
  have e2 : (ts.map fun t => He.dicW K (t.1 K))[i]? = (ts.map fun t => some (He.keysIn w.params t.2))[i]? := by rw [e]
  rw [List.getElem?_map, List.getElem?_map, h] at e2
  exact He.dicW_ok (Option.some.inj e2)
end
/-! what the facts say -/
section
variable {K : PySem.W.Frag} {h : Heap} {mg : Str → Option Value}
abbrev glB (x : Str) : Fb := fun K => (He.Fa.glo x).ok K
abbrev frB (x : Str) : Fb := fun K => (He.Fa.free x).ok K
abbrev inB (x : Str) (i : Int) : Fb := fun K => (He.Fa.int x i).ok K
abbrev stB (x z : Str) : Fb := fun K => (He.Fa.str x z).ok K
theorem gl_mg (X : K.In h) (G : h.Ns mainGlobals mg) {x : Str} (c : glB x K = true) : mg x = some (.ref (He.ga K x)) := He.glo_ok X G c
theorem fr_mg (X : K.In h) (G : h.Ns mainGlobals mg) {x : Str} (c : frB x K = true) : mg x = none := He.free_ok X G c
theorem in_mg (X : K.In h) (G : h.Ns mainGlobals mg) {x : Str} {i : Int} (c : inB x i K = true) : Gc mg x (.int i) := by
  obtain ⟨t, e⟩ := He.int_ok X G c
  exact ⟨_, e, ⟨_, rfl⟩⟩
theorem st_mg (X : K.In h) (G : h.Ns mainGlobals mg) {x z : Str} (c : stB x z K = true) : Gc mg x (.str z) := by
  obtain ⟨t, e⟩ := He.str_ok X G c
  exact ⟨_, e, ⟨_, rfl⟩⟩
/-- a class of the program -/
def klB (x : Str) : Fb := fun K => (He.Fa.cls x).ok K && ((He.Fa.glo x).ok K && (PySem.W.makesIn K (He.ga K x) && PySem.W.keepIn K (.ref (He.ga K x))))
theorem kl_mk (X : K.In h) (G : h.Ns mainGlobals mg) {x : Str} (c : klB x K = true) : Kl K mg x (He.ga K x) := by
  obtain ⟨c1, c⟩ := He.ba c
  obtain ⟨c2, c⟩ := He.ba c
  obtain ⟨c3, c4⟩ := He.ba c
  exact ⟨He.cls_ok c1, He.glo_ok X G c2, c3, c4⟩
def ciB (x : Str) : Fb := fun K => (He.Fa.cls x).ok K && (He.eqO (PySem.W.findIn K (.ref (He.ga K x)) "__class__") (some (some (.builtin "object.__class__"))) && (He.eqO (PySem.W.specialIn K (.builtin "object.__class__") "__get__") (some (some (.builtin "getset_descriptor.__get__"))) &&
  (decide (PySem.W.takesIn K (.builtin "object.__class__") = some true) && decide (PySem.W.mroIn K (He.ga K x) (.type "object") = some true))))
theorem ci_mk {x : Str} (c : ciB x K = true) : ClsI K (He.ga K x) := by
  obtain ⟨c1, c⟩ := He.ba c
  obtain ⟨c2, c⟩ := He.ba c
  obtain ⟨c3, c⟩ := He.ba c
  obtain ⟨c4, c5⟩ := He.ba c
  exact ⟨He.cls_ok c1, He.eqO_ok c2, He.eqO_ok c3, of_decide_eq_true c4, of_decide_eq_true c5⟩
def noB (x f : Str) : Fb := fun K => (He.Fa.noat x f).ok K
theorem no_mk {x f : Str} (c : noB x f K = true) : NoAttr K (He.ga K x) f := He.noat_ok c
def meB (x m : Str) : Fb := fun K => (He.Fa.meth x m).ok K
theorem me_mk {x m : Str} (c : meB x m K = true) : Meth K (He.ga K x) m (He.ma K (He.ga K x) m) := He.meth_ok c
/-- kinds: of two classes; of a class and a built-in type -/
def kqB (x y : Str) (b : Bool) : Fb := fun K => decide (PySem.W.kitOne K (.ref (He.ga K x)) (.ref (He.ga K y)) = some b)
theorem kq_mk {x y : Str} {b : Bool} (c : kqB x y b K = true) : PySem.W.kitOne K (.ref (He.ga K x)) (.ref (He.ga K y)) = some b := of_decide_eq_true c
def ktB (x : Str) (t : String) (b : Bool) : Fb := fun K => decide (PySem.W.kitOne K (.ref (He.ga K x)) (.type t) = some b)
theorem kt_mk {x : Str} {t : String} {b : Bool} (c : ktB x t b K = true) : PySem.W.kitOne K (.ref (He.ga K x)) (.type t) = some b := of_decide_eq_true c
def exB (x y : Str) : Fb := fun K => decide (PySem.W.exmOne K (.ref (He.ga K x)) (.ref (He.ga K y)) = some true)
theorem ex_mk {x y : Str} (c : exB x y K = true) : PySem.W.exmOne K (.ref (He.ga K x)) (.ref (He.ga K y)) = some true := of_decide_eq_true c
/-- the root of the exceptions -/
def rcB (x : Str) : Fb := fun K => (He.Fa.glo x).ok K && (He.eqO (PySem.W.specialIn K (.ref (He.ga K x)) "__getattribute__") (some (some (.builtin "type.__getattribute__"))) && (PySem.W.readsIn K (He.ga K x) (.type "type") &&
  (match PySem.W.findCls K (.ref (He.ga K x)) (.type "type") "__init__" with
    | some (.val v) => decide (v = .builtin "ValueError.__init__")
    | _ => false)))
theorem rc_mk (X : K.In h) (G : h.Ns mainGlobals mg) {x : Str} (c : rcB x K = true) : Rc K mg x (He.ga K x) := by
  obtain ⟨c1, c⟩ := He.ba c
  obtain ⟨c2, c⟩ := He.ba c
  obtain ⟨c3, c4⟩ := He.ba c
  refine ⟨He.glo_ok X G c1, He.eqO_ok c2, c3, ?_⟩
  split at c4
  · rename_i v e
    rw [e, of_decide_eq_true c4]
  · cases c4
/-- an exception class with fields -/
def oexO (C : Addr) : Obj → Bool
  | ⟨.type t, _, .cls ⟨_, _, .ref D :: bm, _, _, hd, _, _, _, _, hl⟩, ⟨[_, _, _, _, some (.builtin n), _]⟩⟩ => decide (t = "type") && (decide (D = C) && (PySem.HandSPX.refsVE bm && (hd && (!hl && decide (n = "ValueError.__new__")))))
  | _ => false
theorem oexO_ok {C : Addr} {o : Obj} (h : oexO C o = true) : ∃ nm q N bs bm sn sub ab col dd k0 k1 k2 k3 k5, o = excClassObj nm q C N bs bm true sn sub ab col dd k0 k1 k2 k3 k5 "ValueError.__new__" ∧ PySem.HandSPX.refsVE bm = true := by
  unfold oexO at h
  split at h
  · rename_i t dd nm bs D bm N q hd sn sub ab col hl k0 k1 k2 k3 n k5
    obtain ⟨h1, h⟩ := He.ba h
    obtain ⟨h2, h⟩ := He.ba h
    obtain ⟨h3, h⟩ := He.ba h
    obtain ⟨h4, h⟩ := He.ba h
    obtain ⟨h5, h6⟩ := He.ba h
    obtain rfl := of_decide_eq_true h1
    obtain rfl := of_decide_eq_true h2
    obtain rfl := of_decide_eq_true h6
    obtain rfl : hl = false := by cases hl <;> first | rfl | cases h5
    subst h4
    exact ⟨_, _, _, _, _, _, _, _, _, _, _, _, _, _, _, rfl, h3⟩
  · cases h
def oxB (x : Str) : Fb := fun K => (match K.lookup (He.ga K x) with
  | some o => oexO (He.ga K x) o
  | none => false) && (He.eqO (PySem.W.findIn K (.ref (He.ga K x)) "__setattr__") (some (some (.builtin "object.__setattr__"))) && (decide (PySem.W.subIn K (.ref (He.ga K x)) (.type "BaseException") = some true) &&
    (decide (PySem.W.typeIn K (.ref (He.ga K x)) = some (.type "type")) && PySem.W.keepIn K (.ref (He.ga K x)))))
theorem ox_mk {x : Str} (c : oxB x K = true) : OexC K (He.ga K x) := by
  obtain ⟨c1, c⟩ := He.ba c
  obtain ⟨c2, c⟩ := He.ba c
  obtain ⟨c3, c⟩ := He.ba c
  obtain ⟨c4, c5⟩ := He.ba c
  refine ⟨?_, He.eqO_ok c2, of_decide_eq_true c3, of_decide_eq_true c4, c5⟩
  cases q : K.lookup (He.ga K x) with
  | none => rw [q] at c1; cases c1
  | some o =>
    rw [q] at c1
    obtain ⟨nm, qn, N, bs, bm, sn, sub, ab, col, dd, k0, k1, k2, k3, k5, rfl, r⟩ := oexO_ok c1
    exact ⟨nm, qn, N, bs, bm, sn, sub, ab, col, dd, k0, k1, k2, k3, k5, rfl, r⟩
def xkB (x : Str) : Fb := fun K => oxB x K && ((He.Fa.glo x).ok K && (He.eqO (PySem.W.findIn K (.ref (He.ga K x)) "__init__") (some (some (.ref (He.ma K (He.ga K x) "__init__")))) && decide (PySem.W.typeIn K (.ref (He.ma K (He.ga K x) "__init__")) = some (.type "function"))))
theorem xk_mk (X : K.In h) (G : h.Ns mainGlobals mg) {x q : Str} {st : Stmt} {ns : List Str} {fd : FuncData} (c : xkB x K = true) (F : Fun K "__init__" q st (He.ma K (He.ga K x) "__init__") fd) (b : Binds K fd ("self" :: ns) []) (no : ∀ n ∈ ns, PySem.W.findIn K (.ref (He.ga K x)) n = some none) : Xk K mg x q (He.ga K x) st ns := by
  obtain ⟨c1, c⟩ := He.ba c
  obtain ⟨c2, c⟩ := He.ba c
  obtain ⟨c3, c4⟩ := He.ba c
  exact ⟨ox_mk c1, He.glo_ok X G c2, ⟨_, _, F, He.eqO_ok c3, of_decide_eq_true c4, b⟩, no⟩
def ecB (x : Str) : Fb := fun K => xfB K (He.ga K x) && (He.eqO (PySem.W.findIn K (.ref (He.ga K x)) "__class__") (some (some (.builtin "object.__class__"))) && (He.eqO (PySem.W.specialIn K (.builtin "object.__class__") "__get__") (some (some (.builtin "getset_descriptor.__get__"))) &&
  (decide (PySem.W.takesIn K (.builtin "object.__class__") = some true) && decide (PySem.W.mroIn K (He.ga K x) (.type "object") = some true))))
theorem xf_mk {x : Str} (c : ecB x K = true) : XfC K (He.ga K x) := xfB_ok (He.ba c).1
theorem ec_mk {x : Str} (c : ecB x K = true) : ExcC K (He.ga K x) := by
  obtain ⟨c1, c⟩ := He.ba c
  obtain ⟨c2, c⟩ := He.ba c
  obtain ⟨c3, c⟩ := He.ba c
  obtain ⟨c4, c5⟩ := He.ba c
  have f := xfB_ok c1
  exact ⟨f.ga, f.gg, f.exC, f.hdC, He.eqO_ok c2, He.eqO_ok c3, of_decide_eq_true c4, of_decide_eq_true c5⟩
/-- the rows of a dict of the module: tuples of texts -/
def kdB (x z : Str) (ws : List Str) : Fb := fun K => (match PySem.W.nsIn K (He.ga K x) z with
  | some (some (.ref q)) => (match K.lookup q with
    | some ⟨.type c, _, .seq its _, _⟩ => decide (c = "tuple") && (decide (its.size ≤ sizeLine) && He.relAll (ws.map V.str) its.toList)
    | _ => false)
  | _ => false)
theorem kd_mk {x z : Str} {ws : List Str} (c : kdB x z ws K = true) : KdRow K (He.ga K x) z ws := by
  unfold kdB at c
  split at c
  · rename_i q e
    split at c
    · rename_i t d its n sl e2
      obtain ⟨c1, c⟩ := He.ba c
      obtain ⟨c2, c3⟩ := He.ba c
      exact ⟨q, _, its, n, e, e2, congrArg Value.type (of_decide_eq_true c1), rfl, of_decide_eq_true c2, He.relAll_ok c3⟩
    · cases c
  · cases c
theorem kdt_mk (X : K.In h) (G : h.Ns mainGlobals mg) {w : World} {x : Str} {rows : List (Str × List Str)} (c : glB x K = true) (d : ∃ es n, KDict K w (He.ga K x) es n) (r : KdRows K (He.ga K x) rows) : Kdt w.params K mg x (He.ga K x) rows := by
  obtain ⟨es, n, kd⟩ := d
  exact { mg := He.glo_ok X G c, of := ⟨es, n, kd.at_, kd.lit⟩, low := kd.low, row := kdt_rows r }
/-- a def, a method -/
theorem tx_mk (X : K.In h) (G : h.Ns mainGlobals mg) {x : Str} {st : Stmt} {ps : List Str} (F : ∃ fd, Fun K x x st (He.fAd K (x, none)) fd) (c : glB x K = true) (b : ∀ fd, Fun K x x st (He.fAd K (x, none)) fd → Binds K fd ps []) : Tx K mg x st ps := by
  obtain ⟨fd, F⟩ := F
  exact ⟨_, fd, F, He.glo_ok X G c, b fd F⟩
theorem tm_mk {x m q : Str} {st : Stmt} {ps : List Str} (F : ∃ fd, Fun K m q st (He.fAd K (x, some m)) fd) (c : meB x m K = true) (b : ∀ fd, Fun K m q st (He.fAd K (x, some m)) fd → Binds K fd ps []) : Tm K (He.ga K x) m q st ps := by
  obtain ⟨fd, F⟩ := F
  exact ⟨_, fd, F, He.meth_ok c, b fd F⟩
end
/-- the run, whatever the row's answer -/
theorem run_by {P : World → Prop} (row : String) (hf : ∀ w : World, P (w.withFollow row false)) (ht : ∀ w : World, P (w.withFollow row true)) (w : World) : P w := PySem.W.byRow2 row hf ht w
end Y

set_option Elab.async false
set_option linter.all false
set_option maxRecDepth 100000
set_option maxHeartbeats 4000000
namespace Y
open PySem PySem.Spec PyProof.Rows L2
/-! d[k] = v; xs.pop(0); sorted(xs) of tuples of whole numbers; list(reversed(xs)) -/
variable {X : Cx} {K : PySem.W.Frag} {a b c e f i o : Expr} {es rest : List Expr} {ta tb tc te tf to ti : TE} {ta2 tb2 tc2 te2 tf2 to2 ti2 : TE2} {pos apos cpos p q tpos : Pos} {tl : TA} {tl2 : TA2} {x : Str}
variable {ρ : Env2} {μ : Mu} {Q : DK} {k j : Nat}
def dDPut (td ty tv : TE2) : TS2 := fun D ρ μ => tv ρ μ fun v μ1 => td ρ μ1 fun x μ2 => ty ρ μ2 fun y μ3 => ∃ a kvs k, x = .adr a ∧ μ3 a = some (.dk kvs) ∧ y = kD k ∧ kvs.length < sizeLine ∧ D.nx ρ (mup μ3 a (.dk (putD kvs k v)))
def dDPutK (v x : D) (N : Mu → Prop) : DK := fun y μ3 => ∃ a kvs k, x = .adr a ∧ μ3 a = some (.dk kvs) ∧ y = kD k ∧ kvs.length < sizeLine ∧ N (mup μ3 a (.dk (putD kvs k v)))
theorem w_dput {n b c : Env2 → Mu → Prop} {r : DK} (h : te2 ρ μ fun v μ1 => to2 ρ μ1 fun x μ2 => ti2 ρ μ2 (dDPutK v x (n ρ))) : dDPut to2 ti2 te2 ⟨n, r, b, c⟩ ρ μ := h
theorem w_dputI {v : D} {N : Mu → Prop} {p : Addr} {kvs : List (Key × D)} {z : Int} (h : μ p = some (.dk kvs)) (l : kvs.length < sizeLine) (q : N (mup μ p (.dk (putD kvs (.inl z) v)))) : dDPutK v (.adr p) N (.int z) μ := ⟨p, kvs, .inl z, rfl, h, rfl, l, q⟩
theorem w_dputS {v : D} {N : Mu → Prop} {p : Addr} {kvs : List (Key × D)} {z : Str} (h : μ p = some (.dk kvs)) (l : kvs.length < sizeLine) (q : N (mup μ p (.dk (putD kvs (.inr z) v)))) : dDPutK v (.adr p) N (.str z) μ := ⟨p, kvs, .inr z, rfl, h, rfl, l, q⟩
theorem s_dput [Jx] (hr : Room k X.A) (hv : PE2 X e te te2) (ho : PE2 X o to to2) (hi : PE2 X i ti ti2) (hs : swapsWith e (some (.Subscript o i apos)) pos.line X.env = pure false := by rfl) : PS2 X (.Assign [.Subscript o i apos] e pos) (sDPut to ti te) (dDPut to2 ti2 te2) where
  ps := ps_dput (hu_of hr) ho.pe hi.pe hv.pe hs
  re := fun D2 ρ μ h I σ H hA hS D g => hv.re ρ μ _ h I σ H hA hS _ fun v μ1 vv I1 H1 h1 A1 k1 r1 => ho.re ρ μ1 _ h1 I1 σ H1 A1 (hS.mono k1.ex) _ fun x μ2 vx I2 H2 h2 A2 k2 r2 => hi.re ρ μ2 _ h2 I2 σ H2 A2 (hS.mono (k1.ex.trans k2.ex)) _ fun y μ3 vy I3 H3 h3 A3 k3 r3 => by
    obtain ⟨p, kvs, kk, rfl, hp, rfl, hl, q⟩ := h3
    have e2 : vx = .ref p := r2
    have e3 : vy = kV kk := rp_kD r3
    subst e2 e3
    obtain ⟨hvs, hH, rk⟩ := at_dk A3 hp
    have rv : Rp X.K I3 v vv := r1.mono (k2.ex.trans k3.ex)
    refine ⟨p, _, rfl, DPut.k hH (by rw [← rpK_length rk]; exact hl), g.nx _ _ _ _ _ q (A3.put hp ⟨_, rfl, rpK_put rk rv⟩) (hS.mono (k1.ex.trans (k2.ex.trans k3.ex))) ((k1.trans (k2.trans k3)).trans (Kp.put hp))⟩
theorem valD_put {kvs : List (Key × D)} {k k' : Key} {v : D} : valD (putD kvs k v) k' = if k = k' then some v else valD kvs k' := by
  have aux : ∀ l : List (Key × D), (l.any fun kv => decide (kv.1 = k)) = true → valD (l.map fun kv => if kv.1 = k then (kv.1, v) else kv) k' = if k = k' then some v else valD l k' := by
    intro l
    induction l with
    | nil => intro h; cases h
    | cons y r ih =>
      intro h
      obtain ⟨k1, v1⟩ := y
      rw [List.map_cons]
      by_cases e : k1 = k
      · subst e
        rw [if_pos rfl]
        show (if k1 = k' then some v else valD _ k') = _
        by_cases e2 : k1 = k'
        · rw [if_pos e2, if_pos e2]
        · rw [if_neg e2, if_neg e2]
          show _ = (if k1 = k' then some v1 else valD r k')
          rw [if_neg e2]
          by_cases hr : (r.any fun kv => decide (kv.1 = k1)) = true
          · rw [ih hr, if_neg e2]
          · have hm : r.map (fun kv => if kv.1 = k1 then (kv.1, v) else kv) = r := by
              rw [List.map_congr_left (g := id), List.map_id]
              intro z hz
              have : ¬ z.1 = k1 := fun e3 => hr (List.any_eq_true.mpr ⟨z, hz, decide_eq_true e3⟩)
              rw [if_neg this]; rfl
            rw [hm]
      · rw [if_neg e]
        have hr : (r.any fun kv => decide (kv.1 = k)) = true := by
          rw [List.any_cons, Bool.or_eq_true] at h
          rcases h with h | h
          · exact absurd (of_decide_eq_true h) e
          · exact h
        show (if k1 = k' then some v1 else valD _ k') = (if k = k' then some v else if k1 = k' then some v1 else valD r k')
        rw [ih hr]
        by_cases e2 : k = k'
        · subst e2; rw [if_pos rfl, if_neg e]; rw [if_pos rfl]
        · rw [if_neg e2, if_neg e2]
  have aux2 : ∀ l : List (Key × D), ¬ (l.any fun kv => decide (kv.1 = k)) = true → valD (l ++ [(k, v)]) k' = if k = k' then some v else valD l k' := by
    intro l
    induction l with
    | nil => intro _; rfl
    | cons y r ih =>
      intro h
      obtain ⟨k1, v1⟩ := y
      rw [List.any_cons, Bool.or_eq_true, not_or] at h
      have e : ¬ k1 = k := fun e => h.1 (decide_eq_true e)
      show (if k1 = k' then some v1 else valD (r ++ [(k, v)]) k') = (if k = k' then some v else if k1 = k' then some v1 else valD r k')
      rw [ih h.2]
      by_cases e2 : k = k'
      · subst e2; rw [if_neg e, if_pos rfl, if_pos rfl]
      · rw [if_neg e2, if_neg e2]
  unfold putD
  split
  · rename_i h; exact aux kvs h
  · rename_i h; exact aux2 kvs h
theorem putD_len {kvs : List (Key × D)} {k : Key} {v : D} : (putD kvs k v).length ≤ kvs.length + 1 := by
  unfold putD
  split
  · rw [List.length_map]; omega
  · rw [List.length_append, List.length_singleton]; omega
/-! pop(0) -/
def dPop0 : DRM := fun x xs μ Q => ∃ p d r, x = .adr p ∧ xs = [.int 0] ∧ μ p = some (.lst (d :: r)) ∧ Q d (mup μ p (.lst r))
theorem w_pop0 {p : Addr} {d : D} {r : List D} (h : μ p = some (.lst (d :: r))) (q : Q d (mup μ p (.lst r))) : dPop0 (.adr p) [.int 0] μ Q := ⟨p, d, r, rfl, rfl, h, q⟩
theorem rm_pop0 [Jx] : RM K rPopAt dPop0 := fun x xs μ Q2 q I H v vs hA rx rs Q k => by
  obtain ⟨p, d, r, rfl, rfl, h, q⟩ := q
  cases (show v = _ from rx)
  obtain ⟨w, e1, e2⟩ := rs.one_inv
  cases (show w = _ from e2)
  subst e1
  obtain ⟨_, ob, ho, us, rfl, hr⟩ := hA.own p _ h
  obtain ⟨u, us, rfl, r1, r2⟩ := hr
  exact ⟨p, u :: us, 0, 0, u, rfl, rfl, ho, by decide, by decide, by unfold seqIndex?; simp, rfl, k _ _ _ _ _ q (hA.put h ⟨_, rfl, r2⟩) (Kp.put h) r1⟩
theorem e_pop0 [Jx] (ho : PE2 X o to to2) (ha : PA2 X [e] tl tl2) (hbase : attributeBase o "pop" X.env (eval o X.env) = eval o X.env := by rfl)
    (hfew : ((backTo cpos (starEach [e] X.env)).all (fun x => !x.1) && (backToKw cpos (keywordEach [] X.env)).all (fun x => x.1.isSome) && decide ([e].length + ([] : List Keyword).length + (if ([] : List Keyword).isEmpty then 0 else 1) < 30)) = true := by rfl)
    (hline : (apos.endLine == cpos.line) = true := by rfl) (hs : starEach [e] X.env = (false, eval e X.env) :: starEach [] X.env := by rfl) : PE2 X (.Call (.Attribute o "pop" apos) [e] [] cpos) (tBM X.K "list" rPopAt to tl) (dBM "list" dPop0 to2 tl2) :=
  e_bm PySem.F.plainAttrs_list PySem.F.slot_list_pop PySem.F.type_list_pop mt_popAt rm_pop0 ho ha hbase hfew hline hs
/-! sorted(xs), its items tuples of whole numbers: stable, by their parts from the left -/
abbrev encI (ns : List Int) : PyData := .tuple (ns.map PyData.int)
abbrev tpD (ns : List Int) : D := .tup (ns.map D.int)
abbrev srtI (L : List (List Int)) : List (List Int) := L.mergeSort (PySem.W.dataLe false encI)
def rSortI3 (K : PySem.W.Frag) : List V → Hp → VK → Prop := fun vs H Q => ∃ (a : Addr) (xs : List V) (L : List (List Int)) (J : Hp), vs = [V.ref a] ∧ SqL K H a xs ∧ Exx J H ∧ PySem.W.EachIs (TupI K J) xs L ∧ (∀ ns ∈ L, ns.length = 3) ∧ L.length ≤ 1000 ∧
  ∀ (ys : List V) (p : Addr), PySem.W.EachIs (TupI K J) ys (srtI L) → H p = none → Q (.ref p) (upd H p (.lst ys))
theorem reads_ints {h : Heap} : ∀ {its : List Value} {ns : List Int}, Vals (ns.map V.int) its → ReadsAll h its (ns.map PyData.int) []
  | [], [], _ => .nil
  | _ :: _, [], r => by cases r
  | [], _ :: _, r => by cases r
  | u :: its, n :: ns, r => by
    cases r with
    | cons r1 r2 =>
      obtain ⟨t, rfl⟩ := r1
      exact ReadsAll.cons (as := []) (bs := []) (.int n t) (reads_ints r2)
theorem reads_tup {pins : List (Addr × Obj)} {σ : L2.St} {H : Hp} {s : Shared} (I : Inv X pins σ H s) {t : Addr} {ns : List Int} (h : SqT X.K H t (ns.map V.int)) : ∃ as, Reads s.heap (.ref t) (encI ns) as := by
  obtain ⟨its, rv, ⟨ob, e1, e2, n, e3⟩, _⟩ := I.tuple h
  exact ⟨_, .tuple e1 e2 e3 (reads_ints rv)⟩
theorem each_vals {K : PySem.W.Frag} {H : Hp} : ∀ {us : List Value} {L : List (List Int)}, PySem.W.EachIs (fun u ns => ∃ t, u = Value.ref t ∧ SqT K H t (ns.map V.int)) us L → ∃ ys : List V, Vals ys us ∧ PySem.W.EachIs (TupI K H) ys L
  | _, _, .nil => ⟨[], .nil, .nil⟩
  | _, _, .cons h t => by
    obtain ⟨t1, rfl, hs⟩ := h
    obtain ⟨ys, v, e⟩ := each_vals t
    exact ⟨.ref t1 :: ys, .cons rfl v, .cons ⟨t1, rfl, hs⟩ e⟩
theorem vals_each {K : PySem.W.Frag} {H : Hp} : ∀ {xs : List V} {us : List Value} {L : List (List Int)}, Vals xs us → PySem.W.EachIs (TupI K H) xs L → PySem.W.EachIs (fun u ns => ∃ t, u = Value.ref t ∧ SqT K H t (ns.map V.int)) us L
  | [], _, _, r, e => by cases r; cases e; exact .nil
  | x :: xs, _, _, r, e => by
    cases r with
    | cons r1 r2 =>
      cases e with
      | cons e1 e2 =>
        obtain ⟨t, rfl, hs⟩ := e1
        exact .cons ⟨t, r1, hs⟩ (vals_each r2 e2)
theorem cr_sortI3 (hu : X.A.units + 64 < cLine) : CallR X (.builtin "sorted") (rSortI3 X.K) := by
  intro pins s σ H vs us Q I r h
  obtain ⟨l, xs, L, J, rfl, hs, hJ, he, h3, hL, q⟩ := h
  obtain ⟨its, rv, hl, hz⟩ := I.list hs
  rw [Vals.ref1 r]
  have ev := vals_each rv he
  have hsz : 1000 ≤ sizeLine := sz_le (by decide)
  refine PySem.W.sorted_data (enc := encI) (bs := L) hl.isList ev (ev.mono fun u ns h => ?_) ?_ ?_ (Nat.le_trans hL hsz) (fun ns _ => ?_) fun out ho eo => ?_
  · obtain ⟨t, rfl, hs⟩ := h
    exact reads_tup I (hJ.sqt hs)
  · intro d hd d' hd'
    obtain ⟨ns, hn, rfl⟩ := List.mem_map.mp hd
    obtain ⟨ms, hm, rfl⟩ := List.mem_map.mp hd'
    have := h3 ns hn
    have := h3 ms hm
    show PySem.W.alikeAll _ _ = true
    exact PySem.W.alike_ints ns ms
  · refine .inl fun d hd => ?_
    obtain ⟨ns, hn, rfl⟩ := List.mem_map.mp hd
    have := h3 ns hn
    cases ns with
    | nil => cases this
    | cons n ns => exact ⟨_, _, rfl⟩
  · have : (encI ns).depth = 1 := by show PyData.depthAll _ + 1 = 1; rw [PySem.W.depth_ints]
    omega
  · obtain ⟨ep, he'⟩ := PyProof.Rows.sortedAll_at s.heap its out.toArray
    obtain ⟨ys, vy, ey⟩ := each_vals eo
    have hlen : ys.length ≤ sizeLine := by
      rw [vy.length, ho]; exact Nat.le_trans hL hsz
    exact ⟨.ref _, upd H (s.heap.objs.size + 1) (.lst ys), I.laid (t' := s.toks) (fun _ _ => PyProof.Rows.sortedAll_old) (Nat.le_succ _) ⟨hlen, out, ep, vy, by simpa using he'⟩, rfl, q _ _ ey (I.hok.fresh (Nat.le_succ _))⟩
def dSortI3 : DRC := fun xs μ Q => ∃ (y : D) (L : List (List Int)), xs = [y] ∧ asL μ y = some (L.map tpD) ∧ (∀ ns ∈ L, ns.length = 3) ∧ L.length ≤ 1000 ∧ ∀ p, μ p = none → Q (.adr p) (mup μ p (.lst ((srtI L).map tpD)))
theorem w_sortI3 {y : D} (L : List (List Int)) (h : asL μ y = some (L.map tpD)) (h3 : ∀ ns ∈ L, ns.length = 3) (hl : L.length ≤ 1000) (q : ∀ p, μ p = none → Q (.adr p) (mup μ p (.lst ((srtI L).map tpD)))) : dSortI3 [y] μ Q := ⟨y, L, rfl, h, h3, hl, q⟩
theorem tup_rp {I : Hp} : ∀ {L : List (List Int)} {vs : List V}, RpA K I (L.map tpD) vs → PySem.W.EachIs (TupI K I) vs L
  | [], _, r => by cases (show _ = _ from r); exact .nil
  | ns :: L, _, r => by
    obtain ⟨v, w, rfl, ⟨t, us, rfl, h1, h2⟩, r2⟩ := r
    rw [RpA.ints_inv h2] at h1
    exact .cons ⟨t, rfl, h1⟩ (tup_rp r2)
theorem rp_tup {I : Hp} : ∀ {L : List (List Int)} {vs : List V}, PySem.W.EachIs (TupI K I) vs L → RpA K I (L.map tpD) vs
  | _, _, .nil => rfl
  | _, _, .cons h t => by
    obtain ⟨t1, rfl, hs⟩ := h
    exact ⟨_, _, rfl, ⟨t1, _, rfl, hs, RpA.ints _⟩, rp_tup t⟩
theorem rc_sortI3 [Jx] : RC K (rSortI3 K) dSortI3 := fun xs μ Q2 q I H vs hA rs Q k => by
  obtain ⟨y, L, rfl, hy, h3, hl, q⟩ := q
  obtain ⟨v, rfl, r1⟩ := rs.one_inv
  obtain ⟨pp, us, rfl, hH, rr⟩ := asL_at hA r1 hy
  refine ⟨pp, us, L, I, rfl, .inl (.inl hH), hA.sub, tup_rp rr, h3, hl, fun ys p he hp => ?_⟩
  exact k _ _ _ _ _ (q p (hA.noM hp)) (hA.got hp ⟨_, rfl, rp_tup he⟩) (Kp.got hp) rfl
theorem e_sortI3 [Jx] (hr : Room k X.A) (hg : Gl X "sorted") (hm : X.mg "sorted" = none) (ha : PA2 X [e] tl tl2) (hv : bootBuiltins "sorted" = some (.builtin "sorted") := by decide +kernel)
    (hs : starEach [e] X.env = (false, eval e X.env) :: starEach [] X.env := by rfl) : PE2 X (.Call (.Name "sorted" p) [e] [] pos) (tCB (rSortI3 X.K) tl) (dCB dSortI3 tl2) :=
  e_cb (cr_sortI3 (by have := hr.un; omega)) rc_sortI3 hg hm hv ha (he := hs)
end Y

set_option Elab.async false
set_option linter.all false
set_option maxRecDepth 100000
set_option maxHeartbeats 4000000
namespace Y
open PySem PySem.Spec PyProof.Rows L2
/-! max of three whole numbers -/
variable {X : Cx} {K : PySem.W.Frag} {a b c : Expr} {pos p : Pos} {tl : TA} {tl2 : TA2} {μ : Mu} {Q : DK}
def dMax3 : DRC := fun xs μ Q => ∃ i j k : Int, xs = [.int i, .int j, .int k] ∧ Q (.int (max (max i j) k)) μ
theorem w_max3 {i j k : Int} (q : Q (.int (max (max i j) k)) μ) : dMax3 [.int i, .int j, .int k] μ Q := ⟨i, j, k, rfl, q⟩
theorem nu_max3 (i j k : Int) : nuMax3 (.int i) (.int j) (.int k) = some (.int (max (max i j) k)) := by
  have h2 : ∀ i j : Int, nuMax2 (.int i) (.int j) = some (.int (max i j)) := fun i j => by
    show some (if decide (i < j) = true then V.int j else V.int i) = _
    by_cases h : i < j
    · rw [if_pos (decide_eq_true h), Int.max_eq_right (by omega)]
    · rw [if_neg (by simpa using h), Int.max_eq_left (by omega)]
  show (nuMax2 (.int i) (.int j)).bind (fun m => nuMax2 m (.int k)) = _
  rw [h2]
  exact h2 _ _
theorem RpA.three_inv {I : Hp} {d d' d'' : D} {vs : List V} (r : RpA K I [d, d', d''] vs) : ∃ v v' v'', vs = [v, v', v''] ∧ Rp K I d v ∧ Rp K I d' v' ∧ Rp K I d'' v'' := by
  obtain ⟨v, r1, rfl, h1, h2⟩ := r
  obtain ⟨v', v'', rfl, h3, h4⟩ := h2.two_inv
  exact ⟨v, v', v'', rfl, h1, h3, h4⟩
theorem e_max3 [Jx] (hg : Gl X "max") (hm : X.mg "max" = none) (ha : PA2 X [a, b, c] tl tl2) (hc : X.calm = true := by rfl) (hv : bootBuiltins "max" = some (.builtin "max") := by decide +kernel) (he : starEach [a, b, c] X.env = (false, eval a X.env) :: starEach [b, c] X.env := by rfl) (hpl : (backTo pos (starEach [b, c] X.env)).any (·.1) = false := by rfl) :
    PE2 X (.Call (.Name "max" p) [a, b, c] [] pos) (tCB (rNuC3 nuMax3) tl) (dCB dMax3 tl2) := e_cb (call_max3Nu hc) (fun xs μ Q2 q I H vs hA r Q k => by
    obtain ⟨i, j, l, rfl, q⟩ := q
    obtain ⟨v, w, u, rfl, e1, e2, e3⟩ := r.three_inv
    cases (show v = _ from e1)
    cases (show w = _ from e2)
    cases (show u = _ from e3)
    exact ⟨_, _, _, _, rfl, nu_max3 i j l, k _ _ _ _ _ q hA Kp.refl rfl⟩) hg hm hv ha (he := he) (hpl := hpl)
instance st_max3 {i j k : Int} : Step (dMax3 [.int i, .int j, .int k] μ Q) (Q (.int (max (max i j) k)) μ) := ⟨fun q => w_max3 q⟩
variable {ρ : Env2} {te2 to2 ti2 : TE2} {n b2 c2 : Env2 → Mu → Prop} {r : DK} {x y v : D} {N : Mu → Prop} {xs : List D}
instance st_dput : Step (dDPut to2 ti2 te2 ⟨n, r, b2, c2⟩ ρ μ) (te2 ρ μ fun v μ1 => to2 ρ μ1 fun x μ2 => ti2 ρ μ2 (dDPutK v x (n ρ))) := ⟨fun q => w_dput q⟩
instance hd_pop0 : HdC (dPop0 x xs μ Q) := ⟨fun h => h⟩
instance hd_dputK : HdC (dDPutK v x N y μ) := ⟨fun h => h⟩
end Y

set_option Elab.async false
set_option linter.all false
set_option maxRecDepth 100000
set_option maxHeartbeats 4000000
namespace Y
open PySem PySem.Spec PyProof.Rows L2
/-! zip of a tuple and a list, of a list and a tuple -/
/-- a row: a tuple, or else a list -/
def SqB (tup : Bool) (K : PySem.W.Frag) (H : Hp) (a : Addr) (xs : List V) : Prop := cond tup (SqT K H a xs) (SqL K H a xs)
def HasB (tup : Bool) (g : Heap) (a : Addr) (its : Array Value) : Prop := cond tup (g.IsTuple a its) (g.IsList a its)
def WalkB (tup : Bool) (g : Heap) (it a : Addr) (i : Nat) : Prop := cond tup (g.IsTupleIter it a i) (g.IsListIter it a i)
theorem sqb_has {tup : Bool} {X : Cx} {pins : List (Addr × Obj)} {σ : L2.St} {H : Hp} {s : Shared} {a : Addr} {xs : List V} (inv : Inv X pins σ H s) (h : SqB tup X.K H a xs) : ∃ its : List Value, Vals xs its ∧ HasB tup s.heap a its.toArray ∧ a < s.heap.objs.size := by
  cases tup with
  | true =>
    obtain ⟨its, r1, r2, _⟩ := inv.tuple h
    obtain ⟨ob, r3, _⟩ := id r2
    exact ⟨its, r1, r2, Heap.lt_size r3⟩
  | false =>
    obtain ⟨its, r1, r2, _⟩ := inv.list h
    exact ⟨its, r1, r2.isList, r2.lt⟩
theorem sqb_one {tup : Bool} {X : Cx} {pins : List (Addr × Obj)} {σ : L2.St} {H : Hp} {s : Shared} {a : Addr} {xs ys : List V} (inv : Inv X pins σ H s) (h : SqB tup X.K H a xs) (g : SqB tup X.K H a ys) : xs = ys := by
  cases tup with
  | true => exact inv.tuple_inj h g
  | false => exact inv.list_inj h g
theorem walkb_obj {tup : Bool} {g : Heap} {it a : Addr} {i : Nat} (h : WalkB tup g it a i) : ∃ o, g.get? it = some o ∧ ∀ v, o.data ≠ .cell v := by
  cases tup <;> (obtain ⟨o, e1, _, e2⟩ := h; exact ⟨o, e1, fun v z => by rw [e2] at z; cases z⟩)
theorem walkb_at {tup : Bool} {g g' : Heap} {it a : Addr} {i : Nat} (h : WalkB tup g it a i) (k : ∀ o, g.get? it = some o → g'.get? it = some o) : WalkB tup g' it a i := by
  cases tup with
  | true => exact Heap.IsTupleIter.at h k
  | false => exact Heap.IsListIter.at h k
/-- what an iterator over it draws -/
theorem drawsB (tup : Bool) {P : Program} {w : World} {A : Around} (hh : A.handled = none) (it a : Addr) (ne : a ≠ it) (its : Array Value) : Draws P w A it [it, a] its.size (fun i v => its[i]? = some v) (fun i g => WalkB tup g it a i ∧ HasB tup g a its) := by
  cases tup with
  | true => exact Draws.tuple hh it a ne its
  | false => exact Draws.list hh it a ne its
/-- .. behind its end -/
theorem drawsEnd (tup : Bool) {P : Program} {w : World} {A : Around} (hh : A.handled = none) (it a : Addr) (its : Array Value) (i : Nat) (le : its.size ≤ i) : Draws P w A it [it, a] i (fun _ _ => False) (fun j g => j = i ∧ WalkB tup g it a i ∧ HasB tup g a its) where
  live := fun _ _ st => let ⟨o, e, _⟩ := walkb_obj st.2.1; ⟨o, e⟩
  frame := fun _ _ _ st k => ⟨st.1, walkb_at st.2.1 fun o e => k it (by simp) o e, by
    have h := st.2.2
    cases tup with
    | true => exact Heap.IsTuple.at h fun o e => k a (by simp) o e
    | false => exact Heap.IsList.at h fun o e => k a (by simp) o e⟩
  item := fun j s Q E lt st _ => absurd st.1 (Nat.ne_of_lt lt)
  done := fun s Q E st hE => by
    have h1 := st.2.1
    have h2 := st.2.2
    cases tup with
    | true => exact wpAny_nextOf_tuple_end hh h1 h2 (Array.getElem?_eq_none le) hE
    | false => exact wpAny_nextOf_list_end hh h1 h2 (Array.getElem?_eq_none le) hE
def ItzB (t1 t2 : Bool) (K : PySem.W.Frag) (a b : Addr) : It :=
  ⟨fun i H => ∃ (xs ys : List V) (x y : V), SqB t1 K H a xs ∧ SqB t2 K H b ys ∧ xs[i]? = some x ∧ ys[i]? = some y,
    fun i H v H' => ∃ T x y, v = .ref T ∧ H T = none ∧ H' = upd H T (.tup [x, y]) ∧ (∀ xs, SqB t1 K H a xs → xs[i]? = some x) ∧ ∀ ys, SqB t2 K H b ys → ys[i]? = some y,
    fun i H => ∃ xs ys : List V, SqB t1 K H a xs ∧ SqB t2 K H b ys ∧ (xs.length ≤ i ∨ ys.length ≤ i)⟩
theorem sepB {z TI TO i1 i2 a b : Addr} (D : ZipApart z TI TO i1 i2 a b) (ab1 : a ≠ i2) (ab2 : b ≠ i1) : ZipSep2 z TI TO i1 i2 [i1, a] [i2, b] where
  TIz := D.TIz
  TOz := D.TOz
  TITO := D.TITO
  TIi1 := D.TIi1
  mem1 := List.mem_cons_self
  zf1 := by simp only [List.mem_cons, List.not_mem_nil, or_false, not_or]; exact ⟨D.i1z.symm, D.l1z.symm⟩
  Tf1 := by simp only [List.mem_cons, List.not_mem_nil, or_false, not_or]; exact ⟨D.TOi1, D.l1TO.symm⟩
  TIi2 := D.TIi2
  mem2 := List.mem_cons_self
  zf2 := by simp only [List.mem_cons, List.not_mem_nil, or_false, not_or]; exact ⟨D.i2z.symm, D.l2z.symm⟩
  Tf2 := by simp only [List.mem_cons, List.not_mem_nil, or_false, not_or]; exact ⟨D.TOi2, D.l2TO.symm⟩
  sep1_2 := by simp only [List.mem_cons, List.not_mem_nil, or_false, not_or]; exact ⟨D.i12, ab2.symm⟩
  sep2_1 := by simp only [List.mem_cons, List.not_mem_nil, or_false, not_or]; exact ⟨D.i12.symm, ab1.symm⟩
abbrev fpB (z TI TO i1 i2 : Addr) : List Addr := [z, TI, TO, i1, i2]
theorem turnB {P : Program} {w : World} {K : PySem.W.Frag} {elts : List Expr} {kk : Nat} {tp : Pos} {a b z TI TO i1 i2 : Addr} (t1 t2 : Bool) (D : ZipApart z TI TO i1 i2 a b) :
    Turn P w K (.Tuple elts kk tp) (ItzB t1 t2 K a b) (fpB z TI TO i1 i2) z (fun i g => IsZip g z TI TO .none ∧ IsTupOf2 g TI (.ref i1) (.ref i2) ∧ (∃ p q, IsTupOf2 g TO p q) ∧ WalkB t1 g i1 a i ∧ WalkB t2 g i2 b i) where
  mem := by simp
  obj := fun i g ⟨w1, w2, ⟨p, q, w3⟩, w4, w5⟩ c hc => by
    have hc2 : c = z ∨ c = TI ∨ c = TO ∨ c = i1 ∨ c = i2 := by simpa using hc
    rcases hc2 with e | e | e | e | e <;> rw [e]
    · exact ⟨_, w1, fun _ => nofun⟩
    · exact ⟨_, w2, fun _ => nofun⟩
    · exact ⟨_, w3, fun _ => nofun⟩
    · exact walkb_obj w4
    · exact walkb_obj w5
  keep := fun i g g' ⟨w1, w2, ⟨p, q, w3⟩, w4, w5⟩ k =>
    ⟨k z (by simp) _ w1, k TI (by simp) _ w2, ⟨p, q, k TO (by simp) _ w3⟩, walkb_at w4 (k i1 (by simp)), walkb_at w5 (k i2 (by simp))⟩
  item := by
    intro X eP ew eK calm i pins s σ H E inv hf tn hg
    subst eP ew eK
    obtain ⟨w1, w2, ⟨p, q, w3⟩, w4, w5⟩ := tn
    obtain ⟨xs, ys, x, y, s1, s2, gx, gy⟩ := hg
    obtain ⟨its, r1, l1, _⟩ := sqb_has inv s1
    obtain ⟨jts, r2, l2, _⟩ := sqb_has inv s2
    have zlt : z < s.heap.objs.size := Heap.lt_size w1
    have b1 : i < its.toArray.size := by have := (List.getElem?_eq_some_iff.mp gx).1; have := r1.length; simp only [List.size_toArray]; omega
    have b2 : i < jts.toArray.size := by have := (List.getElem?_eq_some_iff.mp gy).1; have := r2.length; simp only [List.size_toArray]; omega
    have hh : X.A.in1.handled = none := inv.ok.hd calm
    refine wpAny_pyNext_zipD2_item (sepB D D.l1i2 D.l2i1) (drawsB t1 hh i1 a D.l1i1 its.toArray) (drawsB t2 hh i2 b D.l2i2 jts.toArray) w1 w2 w3 ⟨w4, l1⟩ ⟨w5, l2⟩ b1 b2 fun u v g tk e1 e2 z1 z2 z3 z4 z5 z6 z7 => ?_
    refine ⟨_, rfl, wpAny_letOwnedTupleGo_zip (s := { s with heap := g, toks := tk }) z1 fun g2 z8 sb => ?_⟩
    have z9 : g2.get? s.heap.objs.size = some { cls := .type "tuple", data := .seq #[u, v] } := (sb.2 _ (Nat.ne_of_gt zlt)).trans z5
    obtain ⟨u', hu, ru⟩ := r1.get gx
    obtain ⟨v', hv, rv⟩ := r2.get gy
    have eu : u' = u := by rw [List.getElem?_toArray] at e1; exact Option.some.inj (hu.symm.trans e1)
    have ev : v' = v := by rw [List.getElem?_toArray] at e2; exact Option.some.inj (hv.symm.trans e2)
    subst eu ev
    have fresh : ObjOk X.prog X.w (upd H s.heap.objs.size (.tup [x, y])) g2 s.heap.objs.size (.tup [x, y]) := ⟨sz_le (by show 2 ≤ 10000000; decide), [u', v'], .cons ru (.cons rv .nil), ⟨_, z9, rfl, _, rfl⟩⟩
    have kk : ∀ c o, c ∉ fpB z TI TO i1 i2 → s.heap.get? c = some o → g2.get? c = some o := fun c o hc e => by
      simp only [List.mem_cons, List.not_mem_nil, or_false, not_or] at hc
      exact (sb.2 c hc.1).trans (z7 c o hc.1 hc.2.2.1 hc.2.2.2.1 hc.2.2.2.2 e)
    refine ⟨.ref s.heap.objs.size, _, Inv.turnedNew (s := s) (t' := tk) inv kk hf (Nat.le_refl _) fresh, rfl, ⟨_, x, y, rfl, inv.hok.fresh (Nat.le_refl _), rfl, fun l hl => by rw [sqb_one inv hl s1]; exact gx, fun l hl => by rw [sqb_one inv hl s2]; exact gy⟩, ⟨z8, ?_, ⟨u', v', ?_⟩, ?_, ?_⟩, fun c hc => ?_⟩
    · exact (sb.2 _ D.TIz).trans (z7 _ _ D.TIz D.TITO D.TIi1 D.TIi2 w2)
    · exact (sb.2 _ D.TOz).trans z2
    · exact walkb_at z3.1 fun o e => (sb.2 _ D.i1z).trans e
    · exact walkb_at z4.1 fun o e => (sb.2 _ D.i2z).trans e
    · have hc2 : c = z ∨ c = TI ∨ c = TO ∨ c = i1 ∨ c = i2 := by simpa using hc
      have clt : c < s.heap.objs.size := by
        rcases hc2 with e | e | e | e | e <;> rw [e]
        · exact zlt
        · exact Heap.lt_size w2
        · exact Heap.lt_size w3
        · obtain ⟨o, e, _⟩ := walkb_obj w4; exact Heap.lt_size e
        · obtain ⟨o, e, _⟩ := walkb_obj w5; exact Heap.lt_size e
      rw [upd_ne (Nat.ne_of_lt clt)]; exact (hf c hc).1
  done := by
    intro X eP ew eK calm i pins s σ H E inv hf tn hg
    subst eP ew eK
    obtain ⟨w1, w2, ⟨p, q, w3⟩, w4, w5⟩ := tn
    obtain ⟨xs, ys, s1, s2, n3⟩ := hg
    obtain ⟨its, r1, l1, _⟩ := sqb_has inv s1
    obtain ⟨jts, r2, l2, _⟩ := sqb_has inv s2
    have q1 : its.toArray.size = xs.length := by rw [List.size_toArray]; exact r1.length.symm
    have q2 : jts.toArray.size = ys.length := by rw [List.size_toArray]; exact r2.length.symm
    have hh : X.A.in1.handled = none := inv.ok.hd calm
    have fin : ∀ (g : Heap) (tk : Nat), (∀ c o, c ≠ z → c ≠ TO → c ≠ i1 → c ≠ i2 → s.heap.get? c = some o → g.get? c = some o) → (none : Option Value) = none ∧ Inv X pins σ H { s with heap := g, toks := tk } := fun g tk k => ⟨rfl, Inv.turnedL (s := s) (t' := tk) (ch := fpB z TI TO i1 i2) inv (fun c o hc e => by
      simp only [List.mem_cons, List.not_mem_nil, or_false, not_or] at hc
      exact k c o hc.1 hc.2.2.1 hc.2.2.2.1 hc.2.2.2.2 e) hf⟩
    by_cases c1 : its.toArray.size ≤ i
    · by_cases c2 : jts.toArray.size ≤ i
      · exact wpAny_pyNext_zipD2_end (sepB D D.l1i2 D.l2i1) (drawsEnd t1 hh i1 a its.toArray i c1) (drawsEnd t2 hh i2 b jts.toArray i c2) w1 w2 w3 ⟨rfl, w4, l1⟩ ⟨rfl, w5, l2⟩ (Nat.le_refl _) (Nat.le_refl _) (.inl rfl) fin
      · exact wpAny_pyNext_zipD2_end (sepB D D.l1i2 D.l2i1) (drawsEnd t1 hh i1 a its.toArray i c1) (drawsB t2 hh i2 b D.l2i2 jts.toArray) w1 w2 w3 ⟨rfl, w4, l1⟩ ⟨w5, l2⟩ (Nat.le_refl _) (by omega) (.inl rfl) fin
    · exact wpAny_pyNext_zipD2_end (sepB D D.l1i2 D.l2i1) (drawsB t1 hh i1 a D.l1i1 its.toArray) (drawsEnd t2 hh i2 b jts.toArray i (by omega)) w1 w2 w3 ⟨w4, l1⟩ ⟨rfl, w5, l2⟩ (by omega) (Nat.le_refl _) (.inr rfl) fin
  self := fun A i s Q E tn h => wpAny_pyIter_zip tn.1 h
def begB (tup : Bool) (a : Addr) : Obj := { cls := .type (cond tup "tuple_iterator" "list_iterator"), data := .fields #[.ref a, .int 0 0] }
theorem beginsB (tup : Bool) (a : Addr) (its : Array Value) : Begins (.ref a) (begB tup a) fun g => HasB tup g a its := by
  cases tup with
  | true => exact begins_tuple a its
  | false => exact begins_list a its
theorem begB_walk {tup : Bool} {g : Heap} {it a : Addr} (h : g.get? it = some (begB tup a)) : WalkB tup g it a 0 := by
  cases tup <;> exact ⟨_, h, rfl, rfl⟩
def iZipB (t1 t2 : Bool) (K : PySem.W.Frag) (ta : TA) : TI := fun σ H R => ta σ H fun vs H1 => ∃ a b xs ys, vs = [.ref a, .ref b] ∧ SqB t1 K H1 a xs ∧ SqB t2 K H1 b ys ∧ R (ItzB t1 t2 K a b) H1
theorem pi_zipB {X : Cx} {e e2 : Expr} {ta : TA} {p pos tp : Pos} {elts : List Expr} {kk : Nat} (t1 t2 : Bool) (hg : Gl X "zip") (hm : X.mg "zip" = none) (ha : PA X [e, e2] ta)
    (hs : starEach [e, e2] X.env = (false, eval e X.env) :: starEach [e2] X.env := by rfl) (hpl : (backTo pos (starEach [e2] X.env)).any (·.1) = false := by rfl) : PI X (.Tuple elts kk tp) (.Call (.Name "zip" p) [e, e2] [] pos) (iZipB t1 t2 X.K ta) := by
  refine ⟨fun pins s σ H R inv h => Call_ (ld_blt inv hg hm PyProof.Rows.boot_zip (PyProof.Rows.callWith_type1 (thn (ha.run pos pins s σ H _ inv h) fun us s1 ⟨vs, H1, I1, rs, a, b, xs, ys, ev, s2, s3, q⟩ => ?_) hs hpl))⟩
  subst ev
  obtain ⟨u, v, rfl, ru, rv⟩ := vals2 rs
  cases ru; cases rv
  obtain ⟨its, r1, l1, alt⟩ := sqb_has I1 s2
  obtain ⟨jts, r2, l2, blt⟩ := sqb_has I1 s3
  refine zip_begins2 (beginsB t1 a its.toArray) (beginsB t2 b jts.toArray) l1 l2 fun g z1 z2 z3 z4 z5 z6 z7 => wpAny_pyIter_zip z1 ?_
  have I2 : Inv X pins σ H1 { s1 with heap := g } := I1.kept (t' := s1.toks) z7
  refine ⟨s1.heap.objs.size + 4, fpB (s1.heap.objs.size + 4) (s1.heap.objs.size + 2) (s1.heap.objs.size + 3) s1.heap.objs.size (s1.heap.objs.size + 1), _, _, H1, rfl, I2, turnB t1 t2 (PySem.W.ktu_apart s1.heap.objs.size a b alt blt), ⟨z1, z2, ⟨_, _, z3⟩, begB_walk z4, begB_walk z5⟩, fun c hc => ?_, q⟩
  have hc2 : c = s1.heap.objs.size + 4 ∨ c = s1.heap.objs.size + 2 ∨ c = s1.heap.objs.size + 3 ∨ c = s1.heap.objs.size ∨ c = s1.heap.objs.size + 1 := by simpa using hc
  have cle : s1.heap.objs.size ≤ c := by
    rcases hc2 with e | e | e | e | e <;> rw [e]
    · exact Nat.le_add_right _ _
    · exact Nat.le_add_right _ _
    · exact Nat.le_add_right _ _
    · exact Nat.le_refl _
    · exact Nat.le_add_right _ _
  exact I1.fpOk cle (I1.hok.fresh cle)
/-! over data -/
variable {X : Cx} {K : PySem.W.Frag} {a b e : Expr} {tl : TA} {tl2 : TA2} {pos p tpos : Pos} {ρ : Env2} {μ : Mu}
theorem sqb_up {tup : Bool} {I H : Hp} {p : Addr} {vs : List V} (e : Exx I H) (h : SqB tup K I p vs) : SqB tup K H p vs := by
  cases tup with
  | true => exact e.sqt h
  | false => exact e.sql h
/-- of a tuple that stays and of a list -/
theorem itd_TL [Jx] {I : Hp} {p q : Addr} {ds es : List D} {vs : List V} {y : D} (h1 : SqT K I p vs) (h2 : RpA K I ds vs) (r : Rp K I y (.ref q)) : ItD K (ItzB true false K p q) (prsD ds es) (Still y es) I := fun i I' μ' H' e a g => by
  have h1 := (show Exx I' H' from a.sub).sqt (e.sqt h1)
  have h2 := h2.mono e
  obtain ⟨q', ws, eq, h3, h4⟩ := asL_at a (r.mono e) g
  cases eq
  have h3 : SqB false K H' q ws := .inl (.inl h3)
  rw [prsD_len]
  refine ⟨fun hi => ?_, fun hi => ⟨vs, ws, h1, h3, by rw [h2.length, h4.length]; omega⟩⟩
  have hi1 : i < ds.length := by omega
  have hi2 : i < es.length := by omega
  obtain ⟨v, g1, g2⟩ := h2.get (List.getElem?_eq_getElem hi1)
  obtain ⟨w, g3, g4⟩ := h4.get (List.getElem?_eq_getElem hi2)
  refine ⟨⟨vs, ws, v, w, h1, h3, g1, g3⟩, fun u H2 yl => ?_⟩
  obtain ⟨T, a1, a2, rfl, hT, rfl, y1, y2⟩ := yl
  have e1 := y1 vs h1
  rw [g1] at e1; cases e1
  have e2 := y2 ws h3
  rw [g3] at e2; cases e2
  obtain ⟨I2, b1, b2, b3⟩ := pair_new a hT g2 g4
  exact ⟨_, I2, prsD_get (List.getElem?_eq_getElem hi1) (List.getElem?_eq_getElem hi2), b1, b2, b3⟩
/-- of a list and of a tuple that stays -/
theorem itd_LT [Jx] {I : Hp} {p q : Addr} {ds es : List D} {ws : List V} {x : D} (r : Rp K I x (.ref p)) (h3 : SqT K I q ws) (h4 : RpA K I es ws) : ItD K (ItzB false true K p q) (prsD ds es) (Still x ds) I := fun i I' μ' H' e a g => by
  have h3 := (show Exx I' H' from a.sub).sqt (e.sqt h3)
  have h4 := h4.mono e
  obtain ⟨p', vs, ep, h1, h2⟩ := asL_at a (r.mono e) g
  cases ep
  have h1 : SqB false K H' p vs := .inl (.inl h1)
  rw [prsD_len]
  refine ⟨fun hi => ?_, fun hi => ⟨vs, ws, h1, h3, by rw [h2.length, h4.length]; omega⟩⟩
  have hi1 : i < ds.length := by omega
  have hi2 : i < es.length := by omega
  obtain ⟨v, g1, g2⟩ := h2.get (List.getElem?_eq_getElem hi1)
  obtain ⟨w, g3, g4⟩ := h4.get (List.getElem?_eq_getElem hi2)
  refine ⟨⟨vs, ws, v, w, h1, h3, g1, g3⟩, fun u H2 yl => ?_⟩
  obtain ⟨T, a1, a2, rfl, hT, rfl, y1, y2⟩ := yl
  have e1 := y1 vs h1
  rw [g1] at e1; cases e1
  have e2 := y2 ws h3
  rw [g3] at e2; cases e2
  obtain ⟨I2, b1, b2, b3⟩ := pair_new a hT g2 g4
  exact ⟨_, I2, prsD_get (List.getElem?_eq_getElem hi1) (List.getElem?_eq_getElem hi2), b1, b2, b3⟩
abbrev JR : Type := List D → (Mu → Prop) → Mu → Prop
def jZTLK (R : JR) : List D → Mu → Prop := fun xs μ1 => ∃ ds y es, xs = [.tup ds, y] ∧ asL μ1 y = some es ∧ R (prsD ds es) (Still y es) μ1
def jZTL (ta : TA2) : TI2 := fun ρ μ R => ta ρ μ (jZTLK R)
def jZLTK (R : JR) : List D → Mu → Prop := fun xs μ1 => ∃ x ds es, xs = [x, .tup es] ∧ asL μ1 x = some ds ∧ R (prsD ds es) (Still x ds) μ1
def jZLT (ta : TA2) : TI2 := fun ρ μ R => ta ρ μ (jZLTK R)
theorem w_jZTL {R : JR} (h : tl2 ρ μ (jZTLK R)) : jZTL tl2 ρ μ R := h
theorem w_jZLT {R : JR} (h : tl2 ρ μ (jZLTK R)) : jZLT tl2 ρ μ R := h
theorem w_jZTLK {R : JR} {ds es : List D} {y : D} (h : asL μ y = some es) (q : R (prsD ds es) (Still y es) μ) : jZTLK R [.tup ds, y] μ := ⟨ds, y, es, rfl, h, q⟩
theorem w_jZLTK {R : JR} {ds es : List D} {x : D} (h : asL μ x = some ds) (q : R (prsD ds es) (Still x ds) μ) : jZLTK R [x, .tup es] μ := ⟨x, ds, es, rfl, h, q⟩
theorem j_zTL [Jx] {elts : List Expr} {kk : Nat} (hg : Gl X "zip") (hm : X.mg "zip" = none) (ha : PA2 X [a, b] tl tl2) (hs : starEach [a, b] X.env = (false, eval a X.env) :: starEach [b] X.env := by rfl) (hpl : (backTo pos (starEach [b] X.env)).any (·.1) = false := by rfl) :
    PI2 X (.Tuple elts kk tpos) (.Call (.Name "zip" p) [a, b] [] pos) (iZipB true false X.K tl) (jZTL tl2) :=
  ⟨pi_zipB true false hg hm ha.pa hs hpl, fun ρ μ R2 q I σ H hA hS R k => ha.re ρ μ _ q I σ H hA hS _ fun xs μ1 vs I1 H1 q1 a1 k1 r1 => by
    obtain ⟨ds, y, es, rfl, h2, q1⟩ := q1
    obtain ⟨v, w, rfl, e1, e2⟩ := r1.two_inv
    obtain ⟨p1, us, rfl, g1, g2⟩ := e1
    obtain ⟨p2, ws, rfl, g3, g4⟩ := asL_at a1 e2 h2
    exact ⟨p1, p2, us, ws, rfl, (show Exx I1 H1 from a1.sub).sqt g1, .inl (.inl g3), k _ _ _ _ _ _ q1 a1 k1 (itd_TL g1 g2 e2)⟩⟩
theorem j_zLT [Jx] {elts : List Expr} {kk : Nat} (hg : Gl X "zip") (hm : X.mg "zip" = none) (ha : PA2 X [a, b] tl tl2) (hs : starEach [a, b] X.env = (false, eval a X.env) :: starEach [b] X.env := by rfl) (hpl : (backTo pos (starEach [b] X.env)).any (·.1) = false := by rfl) :
    PI2 X (.Tuple elts kk tpos) (.Call (.Name "zip" p) [a, b] [] pos) (iZipB false true X.K tl) (jZLT tl2) :=
  ⟨pi_zipB false true hg hm ha.pa hs hpl, fun ρ μ R2 q I σ H hA hS R k => ha.re ρ μ _ q I σ H hA hS _ fun xs μ1 vs I1 H1 q1 a1 k1 r1 => by
    obtain ⟨x, ds, es, rfl, h1, q1⟩ := q1
    obtain ⟨v, w, rfl, e1, e2⟩ := r1.two_inv
    obtain ⟨p1, us, rfl, g1, g2⟩ := asL_at a1 e1 h1
    obtain ⟨p2, ws, rfl, g3, g4⟩ := e2
    exact ⟨p1, p2, us, ws, rfl, .inl (.inl g1), (show Exx I1 H1 from a1.sub).sqt g3, k _ _ _ _ _ _ q1 a1 k1 (itd_LT e1 g3 g4)⟩⟩
instance st_jZTL {R : JR} : Step (jZTL tl2 ρ μ R) (tl2 ρ μ (jZTLK R)) := ⟨fun q => q⟩
instance st_jZLT {R : JR} : Step (jZLT tl2 ρ μ R) (tl2 ρ μ (jZLTK R)) := ⟨fun q => q⟩
variable {R : JR} {xs : List D}
instance hd_jZTLK : HdB (jZTLK R xs μ) := ⟨fun h => h⟩
instance hd_jZLTK : HdB (jZLTK R xs μ) := ⟨fun h => h⟩
theorem prs_map {α : Type} (f g : α → D) : ∀ l : List α, prsD (l.map f) (l.map g) = l.map fun x => D.tup [f x, g x]
  | [] => rfl
  | x :: l => by show D.tup [f x, g x] :: prsD (l.map f) (l.map g) = _; rw [prs_map f g l]; rfl
theorem prs_zip {α β : Type} (f : α → D) (g : β → D) : ∀ (l : List α) (m : List β), prsD (l.map f) (m.map g) = (l.zip m).map fun p => D.tup [f p.1, g p.2]
  | [], _ => rfl
  | _ :: _, [] => rfl
  | x :: l, y :: m => by show D.tup [f x, g y] :: prsD (l.map f) (m.map g) = _; rw [prs_zip f g l m]; rfl
end Y

set_option Elab.async false
set_option linter.all false
set_option maxRecDepth 100000
set_option maxHeartbeats 4000000
namespace Y
open PySem PySem.Spec PyProof.Rows L2
open Sem (wp)
/-! list(reversed(xs)) -/
section
variable {P : Program} {w : World} {B : Around} {Er : Value → Shared → Prop} {t : Shared} {r l N : Addr} {its : Array Value}
abbrev LstAt (g : Heap) (N : Addr) (c : Nat) (acc : Array Value) : Prop := g.get? N = some { cls := .type "list", dict := none, data := .seq acc c, slots := #[] }
abbrev RevIts (its acc : Array Value) : Prop := ItemsOf (fun i v => its[its.size - 1 - i]? = some v) acc its.size
theorem ext_rev {R : Result → Shared → Prop} {res : Value} {k : Nat} (calm : B.handled = none) (hr : t.heap.IsRevIter r l ((its.size : Int) - 1)) (hl : t.heap.IsList l its) (lr : l ≠ r) (hN : LstAt t.heap N k #[]) (Nr : N ≠ r) (Nl : N ≠ l) (sz : its.size ≤ sizeLine)
    (fin : ∀ (g : Heap) (tk : Nat) (acc : Array Value) (k' : Nat), (∀ b o, b ≠ N → b ≠ r → t.heap.get? b = some o → g.get? b = some o) → LstAt g N k' acc → RevIts its acc → R (.ok (.ret res)) { t with heap := g, toks := tk }) :
    wpAny (model P w) B.in1 (Builtin.List.listExtendWith (.ref N) (.ref r) res)
      (fun e t' => match e with | .done f => R (.ok f) t' | .again c => c.quiet = true ∧ codeAny (model P w) B c R t') (fun e t' => R (.error e) t') t := by
  have ws := (Walks.listRev (prog := P) (w := w) (A := B.in1) calm r l lr its).toS
  have out : N ∉ [r, l] := by simp only [List.mem_cons, List.not_mem_nil, or_false, not_or]; exact ⟨Nr, Nl⟩
  have ty : t.TypeIs (.ref r) "list_reverseiterator" := Heap.IsRevIter.typeIs hr
  have df : Builtin.List.listSameRef (.ref N) (.ref r) = false := by simp [Builtin.List.listSameRef, Nr]
  unfold Builtin.List.listExtendWith
  refine wpAny_bind (wpAny_typeOf ty ?_)
  rw [if_neg (by rw [df]; decide)]
  refine wpAny_bind (wpAny_pyIter_revIter hr ?_)
  refine wpAny_bind (wpAny_holding ?_)
  unfold Builtin.List.listLengthHint
  refine wpAny_bind (wpAny_specialOf ty RT.nolen_lri ?_)
  show wpAny _ B.in1 (specialOf (Value.ref r) (Str.ofString "__length_hint__") >>= _) _ _ _
  refine wpAny_bind (wpAny_specialOf ty RT.hint_lri ?_)
  generalize nm : ("list_reverseiterator.__length_hint__" : String) = nm0
  wp_delta
  rw [show splitId nm0 = some ("list_reverseiterator", "__length_hint__") from by subst nm; decide +kernel]
  subst nm
  refine wpAny_bind (wpAny_isInstance (b := true) ty (by rw [isSubtype_type]; kernel_rfl) ?_)
  refine wpAny_pure ?_
  rw [if_neg (by decide)]
  have z : ((its.size : Nat) : Int) - 1 - ((0 : Nat) : Int) = (its.size : Int) - 1 := by omega
  refine wpAny_pure ⟨plainId_quiet F.plain_extend_loop _, codeAny_extend_loopS ws sz _ out _ its.size 0 _ _ _ rfl (Nat.zero_le _) ⟨Nat.zero_le _, by rw [z]; exact hr, hl⟩ hN (ItemsOf.nil _) fun t' acc k' mv hN' it => ?_⟩
  rw [Moved.eq_with mv]
  refine fin t'.heap t'.toks acc k' (fun b o nN nr e => mv.heap b o (fun m => ?_) e) hN' it
  rcases List.mem_cons.mp m with e' | m
  · exact nN e'
  · exact nr (List.mem_singleton.mp m)
theorem init_rev {R : Result → Shared → Prop} (calm : B.handled = none) (hr : t.heap.IsRevIter r l ((its.size : Int) - 1)) (hl : t.heap.IsList l its) (lr : l ≠ r) (hN : t.heap.get? N = some { cls := .type "list", data := .seq #[] }) (Nr : N ≠ r) (Nl : N ≠ l) (sz : its.size ≤ sizeLine)
    (fin : ∀ (g : Heap) (tk : Nat) (acc : Array Value) (k' : Nat), (∀ b o, b ≠ N → b ≠ r → t.heap.get? b = some o → g.get? b = some o) → LstAt g N k' acc → RevIts its acc → R (.ok (.ret .none)) { t with heap := g, toks := tk }) :
    wpAny (model P w) B.in1 (Builtin.«list.__init__» ⟨[.ref N, .ref r], []⟩)
      (fun e t' => match e with | .done f => R (.ok f) t' | .again c => c.quiet = true ∧ codeAny (model P w) B c R t') (fun e t' => R (.error e) t') t := by
  show wpAny _ _ (do let a ← Builtin.List.listItems (.ref N); Builtin.List.listUpdate (.ref N) (fun _ => #[]); letGo a.toList.reverse; Builtin.List.listExtendWith (.ref N) (.ref r) .none) _ _ t
  refine wpAny_bind ?_
  unfold Builtin.List.listItems
  refine wpAny_bind (wpAny_seqItems hN rfl (wpAny_pure ?_))
  show wpAny _ _ (updateSeq N (fun _ => #[]) >>= fun _ => letGo (#[] : Array Value).toList.reverse >>= fun _ => Builtin.List.listExtendWith (.ref N) (.ref r) .none) _ _ t
  refine wpAny_bind (wpAny_updateSeq hN rfl ?_)
  have hN2 := Heap.get?_update_self (Obj.mapSeq (fun _ => (#[] : Array Value))) hN rfl
  have other : ∀ b o, b ≠ N → t.heap.get? b = some o → (t.heap.update N (Obj.mapSeq (fun _ => (#[] : Array Value)))).get? b = some o := fun b o n e => (Heap.get?_update_other _ _ (Ne.symm n)).trans e
  refine wpAny_bind (wpAny_letGo ?_)
  exact ext_rev calm (hr.at fun o e => other _ _ (Ne.symm Nr) e) (hl.at fun o e => other _ _ (Ne.symm Nl) e) lr hN2 Nr Nl sz fun g tk acc k' kp h1 h2 => fin g tk acc k' (fun b o nN nr e => kp b o nN nr (other b o nN e)) h1 h2
theorem call_listRev {Q : Value → Shared → Prop} (calm : B.handled = none) (hr : t.heap.IsRevIter r l ((its.size : Int) - 1)) (hl : t.heap.IsList l its) (lr : l ≠ r) (sz : its.size ≤ sizeLine)
    (fin : ∀ (g : Heap) (tk : Nat) (acc : Array Value) (k' : Nat), (∀ b o, b ≠ r → t.heap.get? b = some o → g.get? b = some o) → LstAt g t.heap.objs.size k' acc → RevIts its acc → Q (.ref t.heap.objs.size) { t with heap := g, toks := tk }) :
    wpAny (model P w) B (call (.type "list") [.ref r]) Q Er t := by
  obtain ⟨oi, ei, _⟩ := id hr
  obtain ⟨ol, el, _⟩ := id hl
  have Nr : t.heap.objs.size ≠ r := Nat.ne_of_gt (Heap.lt_size ei)
  have Nl : t.heap.objs.size ≠ l := Nat.ne_of_gt (Heap.lt_size el)
  refine callType_codes (Q₁ := fun v t1 => v = .ref t.heap.objs.size ∧ t1 = { t with heap := t.heap.push { cls := .type "list", data := .seq #[] } }) PySem.F.called_list (PySem.F.typeCall_list_1 _) PySem.F.entry_list_init (code_list_new _ ⟨rfl, rfl⟩) fun v t1 h1 => ?_
  obtain ⟨rfl, rfl⟩ := h1
  have hN : (t.heap.push { cls := .type "list", data := .seq #[] }).get? t.heap.objs.size = some { cls := .type "list", data := .seq #[] } := Heap.get?_push_size _ rfl
  refine ⟨⟨_, hN, rfl⟩, PySem.F.args_list_init_2 _ _, init_rev (B := B.in1) calm (hr.at fun o e => Heap.get?_push_of_some _ e) (hl.push _) lr hN Nr Nl sz fun g tk acc k' kp h2 h3 => ?_⟩
  exact ⟨rfl, fin g tk acc k' (fun b o nr e => kp b o (Nat.ne_of_lt (Heap.lt_size e)) nr (Heap.get?_push_of_some _ e)) h2 h3⟩
end
variable {X : Cx} {K : PySem.W.Frag} {e : Expr} {te : TE} {te2 : TE2} {p1 p2 q1 q2 : Pos}
def tListRev (K : PySem.W.Frag) (te : TE) : TE := fun σ H Q => te σ H fun v H1 => ∃ (a : Addr) (xs : List V), v = .ref a ∧ SqL K H1 a xs ∧ ∀ q, H1 q = none → Q (.ref q) (upd H1 q (.lst xs.reverse))
theorem pe_listRev (calm : X.calm = true) (g1 : Gl X "list") (m1 : X.mg "list" = none) (g2 : Gl X "reversed") (m2 : X.mg "reversed" = none) (he : PE X e te)
    (s1 : starEach [e] X.env = (false, eval e X.env) :: starEach [] X.env := by rfl)
    (s2 : starEach [.Call (.Name "reversed" p2) [e] [] q2] X.env = (false, eval (.Call (.Name "reversed" p2) [e] [] q2) X.env) :: starEach [] X.env := by rfl) :
    PE X (.Call (.Name "list" p1) [.Call (.Name "reversed" p2) [e] [] q2] [] q1) (tListRev X.K te) := by
  refine ⟨fun pins s σ H Q I h => ?_⟩
  refine Call_ (ld_blt I g1 m1 boot_list (PyProof.Rows.callWith_type1 (args_cons (Call_ (ld_blt I g2 m2 PyProof.Rows.boot_reversed (PyProof.Rows.callWith_type1 (args_cons (thn (he.run pins s σ H _ I h) fun u b ⟨v, J, IJ, rv, hv⟩ => args_nil ?_) s1) s1 rfl))) s2) s2 rfl))
  obtain ⟨a, xs, rfl, ha, hq⟩ := hv
  obtain rfl : u = Value.ref a := rv
  obtain ⟨its, vs, ap, az⟩ := IJ.list ha
  refine call_reversed_list ap.isList (args_nil ?_)
  have IK : Inv X pins σ J { b with heap := b.heap.push (revObj a ((its.toArray.size : Int) - 1)) } := IJ.kept (t' := b.toks) fun c o e => Heap.get?_push_of_some _ e
  have al := ap.isList
  have an : a ≠ b.heap.objs.size := Nat.ne_of_lt ap.lt
  refine call_listRev (t := { b with heap := b.heap.push (revObj a ((its.toArray.size : Int) - 1)) }) (IJ.ok.hd calm) ⟨_, Heap.get?_push_size _ rfl, rfl, rfl⟩ (al.push _) an (by rw [List.size_toArray, ← vs.length]; exact az) fun g tk acc k kp hN hi => ?_
  have new : ObjOk X.prog X.w (upd J (b.heap.push (revObj a ((its.toArray.size : Int) - 1))).objs.size (.lst xs.reverse)) g (b.heap.push (revObj a ((its.toArray.size : Int) - 1))).objs.size (.lst xs.reverse) := ⟨by rw [List.length_reverse]; exact az, acc.toList, k, RT.vals_rev vs hi, by rw [Array.toArray_toList]; exact hN⟩
  refine ⟨.ref (b.heap.push (revObj a ((its.toArray.size : Int) - 1))).objs.size, upd J (b.heap.push (revObj a ((its.toArray.size : Int) - 1))).objs.size (.lst xs.reverse), Inv.turnedNew (s := { b with heap := b.heap.push (revObj a ((its.toArray.size : Int) - 1)) }) (t' := tk) (ch := [b.heap.objs.size]) IK (fun c o hc e => kp c o (fun z => hc (List.mem_singleton.mpr z)) e) (fun c hc => ?_) (Nat.le_refl _) new, rfl, hq _ (IK.hok.fresh (Nat.le_refl _))⟩
  rw [List.mem_singleton.mp hc]
  exact IJ.fpOk (Nat.le_refl _) (IJ.hok.fresh (Nat.le_refl _))
def dListRevK (Q : DK) : DK := fun d μ1 => ∃ ds, asL μ1 d = some ds ∧ ∀ p, μ1 p = none → Q (.adr p) (mup μ1 p (.lst ds.reverse))
def dListRev (te2 : TE2) : TE2 := fun ρ μ Q => te2 ρ μ (dListRevK Q)
theorem w_listRevK {Q : DK} {d : D} {μ : Mu} {ds : List D} (h : asL μ d = some ds) (q : ∀ p, μ p = none → Q (.adr p) (mup μ p (.lst ds.reverse))) : dListRevK Q d μ := ⟨ds, h, q⟩
instance st_listRev {ρ : Env2} {μ : Mu} {Q : DK} : Step (dListRev te2 ρ μ Q) (te2 ρ μ (dListRevK Q)) := ⟨fun q => q⟩
instance hd_listRevK {Q : DK} {d : D} {μ : Mu} : HdA (dListRevK Q d μ) := ⟨fun q => q⟩
theorem e_listRev [Jx] (calm : X.calm = true) (g1 : Gl X "list") (m1 : X.mg "list" = none) (g2 : Gl X "reversed") (m2 : X.mg "reversed" = none) (he : PE2 X e te te2)
    (s1 : starEach [e] X.env = (false, eval e X.env) :: starEach [] X.env := by rfl)
    (s2 : starEach [.Call (.Name "reversed" p2) [e] [] q2] X.env = (false, eval (.Call (.Name "reversed" p2) [e] [] q2) X.env) :: starEach [] X.env := by rfl) :
    PE2 X (.Call (.Name "list" p1) [.Call (.Name "reversed" p2) [e] [] q2] [] q1) (tListRev X.K te) (dListRev te2) :=
  ⟨pe_listRev calm g1 m1 g2 m2 he.pe s1 s2, fun ρ μ Q2 q I σ H hA hS Q g => he.re ρ μ _ q I σ H hA hS _ fun d μ1 v I1 H1 q1 a1 k1 r1 => by
    obtain ⟨ds, h, q⟩ := q1
    obtain ⟨a, us, rfl, hH, rr⟩ := asL_at a1 r1 h
    exact ⟨a, us, rfl, .inl (.inl hH), fun p hp => g _ _ _ _ _ (q p (a1.noM hp)) (a1.got hp ⟨_, rfl, rr.reverse⟩) (k1.trans (Kp.got hp)) rfl⟩⟩
theorem e_isOk [Jx] {a b : Expr} {p pos : Pos} {tl : TA} {tl2 : TA2} (K : PySem.W.Frag) (hK : X.K = K) (hg : Gl X "isinstance") (hm : X.mg "isinstance" = none) (ha : PA2 X [a, b] tl tl2) (he : starEach [a, b] X.env = (false, eval a X.env) :: starEach [b] X.env := by rfl) (hpl : (backTo pos (starEach [b] X.env)).any (·.1) = false := by rfl) :
    PE2 X (.Call (.Name "isinstance" p) [a, b] [] pos) (tCB (rIsi X.K) tl) (dCB (dIsO K) tl2) := by
  subst hK
  exact e_isO hg hm ha (he := he) (hpl := hpl)
end Y

set_option Elab.async false
set_option linter.all false
set_option maxRecDepth 100000
set_option maxHeartbeats 4000000
namespace Y
open PySem PySem.Spec PyProof.Rows L2
/-! xs.remove(k), xs.index(k) of whole numbers -/
variable {X : Cx} {K : PySem.W.Frag} {a b c e f i o : Expr} {es rest : List Expr} {ta tb tc te tf to ti : TE} {ta2 tb2 tc2 te2 tf2 to2 ti2 : TE2} {pos apos cpos p q tpos : Pos} {tl : TA} {tl2 : TA2} {x : Str}
variable {ρ : Env2} {μ : Mu} {Q : DK} {k j : Nat}
theorem takesF {X : Cx} : Takes X (fun _ _ _ _ => False) := fun _ _ x => by
  obtain ⟨_, _, _, _, _, _, _, _, _, _, _, _, _, _, _, _, z⟩ := x
  exact z.elim
def dRem (to ti : TE2) : TE2 := fun ρ μ Q => to ρ μ fun x μ1 => dTy "list" x μ1 (ti ρ μ1 fun y μ2 => ∃ p ns k, x = .adr p ∧ y = .int k ∧ μ2 p = some (.lst (List.map D.int ns)) ∧ k ∈ ns ∧ Q .non (mup μ2 p (.lst ((ns.erase k).map D.int))))
def dRemK (x : D) (Q : DK) : DK := fun y μ2 => ∃ p ns k, x = .adr p ∧ y = .int k ∧ μ2 p = some (.lst (List.map D.int ns)) ∧ k ∈ ns ∧ Q .non (mup μ2 p (.lst ((ns.erase k).map D.int)))
theorem w_rem (h : to2 ρ μ fun x μ1 => dTy "list" x μ1 (ti2 ρ μ1 (dRemK x Q))) : dRem to2 ti2 ρ μ Q := h
theorem w_remK {p : Addr} {ns : List Int} {k : Int} (h : μ p = some (.lst (ns.map D.int))) (hk : k ∈ ns) (q : Q .non (mup μ p (.lst ((ns.erase k).map D.int)))) : dRemK (.adr p) Q (.int k) μ := ⟨p, ns, k, rfl, rfl, h, hk, q⟩
theorem e_remove [Jx] (hc : X.calm = true) (ho : PE2 X o to to2) (he : PE2 X e te te2) (hbase : attributeBase o "remove" X.env (eval o X.env) = eval o X.env := by rfl)
    (hfew : ((backTo cpos (starEach [e] X.env)).all (fun x => !x.1) && (backToKw cpos (keywordEach [] X.env)).all (fun x => x.1.isSome)
      && decide (([e] : List Expr).length + ([] : List Keyword).length + (if ([] : List Keyword).isEmpty then 0 else 1) < 30)) = true := by rfl)
    (hline : (apos.endLine == cpos.line) = true := by rfl) (hs : starEach [e] X.env = (false, eval e X.env) :: starEach [] X.env := by rfl) (hplain : (backTo cpos (starEach [] X.env)).any (·.1) = false := by rfl) :
    PE2 X (.Call (.Attribute o "remove" apos) [e] [] cpos) (tRemX X.K (fun _ _ _ _ => False) to te) (dRem to2 te2) :=
  ⟨pe_remX hc takesF ho.pe he.pe hbase hfew hline hs hplain, fun ρ μ Q2 h I σ H hA hS Q g => ho.re ρ μ _ h I σ H hA hS _ fun x μ1 vx I1 H1 h1 A1 k1 r1 => by
    obtain ⟨ty, h1⟩ := h1
    refine ⟨tyO_ok A1 r1 ty, he.re ρ μ1 _ h1 I1 σ H1 A1 (hS.mono k1.ex) _ fun y μ2 vy I2 H2 h2 A2 k2 r2 => ?_⟩
    obtain ⟨p, ns, k, rfl, rfl, hp, hk, q⟩ := h2
    have e2 : vx = .ref p := r1
    have e3 : vy = .int k := r2
    subst e2 e3
    obtain ⟨hI, ob, ho, us, rfl, hr⟩ := A2.own p _ hp
    cases hr.ints_inv
    refine ⟨p, ns, k, rfl, rfl, ho, fun _ => ?_, fun h => absurd hk h⟩
    exact g _ _ _ _ _ q (A2.put hp ⟨_, rfl, RpA.ints _⟩) ((k1.trans k2).trans (Kp.put hp)) rfl⟩
/-- xs.index(x), of whole numbers or texts -/
def dIndexI : DRM := fun x xs μ Q => ∃ (ys : List Int) (z : Int) (j : Nat), asL μ x = some (ys.map D.int) ∧ xs = [.int z] ∧ ys[j]? = some z ∧ (∀ m, m < j → ys[m]? ≠ some z) ∧ Q (.int (j : Nat)) μ
def dIndexA : DRM := fun x xs μ Q => dIndexS x xs μ Q ∨ dIndexI x xs μ Q
theorem w_indexAS {x : D} {ys : List Str} {z : Str} (j : Nat) (h : asL μ x = some (ys.map D.str)) (h1 : ys[j]? = some z) (h2 : ∀ m, m < j → ys[m]? ≠ some z) (q : Q (.int (j : Nat)) μ) : dIndexA x [.str z] μ Q := .inl (w_indexS j h h1 h2 q)
theorem w_indexAI {x : D} {ys : List Int} {z : Int} (j : Nat) (h : asL μ x = some (ys.map D.int)) (h1 : ys[j]? = some z) (h2 : ∀ m, m < j → ys[m]? ≠ some z) (q : Q (.int (j : Nat)) μ) : dIndexA x [.int z] μ Q := .inr ⟨ys, z, j, h, rfl, h1, h2, q⟩
theorem rm_indexA [Jx] : RM K (rIndex K) dIndexA := fun x xs μ Q2 q I H v vs hA rx rs Q k => by
  rcases q with q | q
  · exact rm_indexS x xs μ Q2 q I H v vs hA rx rs Q k
  obtain ⟨ys, z, j, h, rfl, h1, h2, q⟩ := q
  obtain ⟨p, ws, rfl, e1, e2⟩ := asL_at hA rx h
  cases e2.ints_inv
  obtain ⟨w, rfl, rw'⟩ := rs.one_inv
  cases (show w = _ from rw')
  refine ⟨p, ys.map V.int, .int z, j, .int z, rfl, rfl, SqL.of e1, rfl, ?_, ?_, ?_, ?_, k _ _ _ _ _ q hA Kp.refl rfl⟩
  · rw [List.all_map]; exact List.all_eq_true.mpr fun _ _ => rfl
  · rw [List.getElem?_map, h1]; rfl
  · show (z == z) = true; exact beq_self_eq_true _
  · intro m z' hm e
    rw [List.getElem?_map] at e
    cases q2 : ys[m]? with
    | none => rw [q2] at e; cases e
    | some y =>
      rw [q2] at e
      cases e
      show (y == z) = false
      exact beq_eq_false_iff_ne.mpr fun z2 => h2 m hm (by rw [q2, z2])
theorem e_indexA [Jx] (ho : PE2 X o to to2) (ha : PA2 X [e] tl tl2) (hbase : attributeBase o "index" X.env (eval o X.env) = eval o X.env := by rfl)
    (hfew : ((backTo cpos (starEach [e] X.env)).all (fun x => !x.1) && (backToKw cpos (keywordEach [] X.env)).all (fun x => x.1.isSome) && decide ([e].length + ([] : List Keyword).length + (if ([] : List Keyword).isEmpty then 0 else 1) < 30)) = true := by rfl)
    (hline : (apos.endLine == cpos.line) = true := by rfl) (hs : starEach [e] X.env = (false, eval e X.env) :: starEach [] X.env := by rfl) : PE2 X (.Call (.Attribute o "index" apos) [e] [] cpos) (tBM X.K "list" (rIndex X.K) to tl) (dBM "list" dIndexA to2 tl2) :=
  e_bm PySem.F.plainAttrs_list PySem.F.slot_list_index PySem.F.type_list_index mt_index rm_indexA ho ha hbase hfew hline hs
theorem hu_in {X : Cx} {k : Nat} (hr : Room k X.A) : X.A.units + 1 < cLine := Nat.lt_of_le_of_lt (Nat.add_le_add_left (by decide) _) hr.units
theorem m_inD [Jx] (hr : Room k X.A) (hi : PE2 X i ti ti2) (ho : PE2 X o to to2) (hm : behindInMarks .In o = false := by rfl) : PE2 X (.Compare i [.In] [o] pos) (tDIn ti to) (dOp dInD ti2 to2) := e_inD hr hi ho hm
theorem m_notInD [Jx] (hr : Room k X.A) (hi : PE2 X i ti ti2) (ho : PE2 X o to to2) (hm : behindInMarks .NotIn o = false := by rfl) : PE2 X (.Compare i [.NotIn] [o] pos) (tDNotIn ti to) (dOp dNotInD ti2 to2) := e_notInD hr hi ho hm
theorem t_inD [Jx] (hr : Room k X.A) (hi : PE2 X i ti ti2) (ho : PE2 X o to to2) (hm : behindInMarks .In o = false := by rfl) : PT2 X (.Compare i [.In] [o] pos) (tB (tDIn ti to)) (dVal (dOp dInD ti2 to2)) :=
  ⟨pt_cmp (pc_din (hu_in hr) hi.pe ho.pe) hm, fun ρ μ T F q I σ H hA hS Q g1 g2 => re_inD hi.re ho.re ρ μ _ q I σ H hA hS _ fun d μ' v I' H' q' a' k' r' => re_val a' r' q' (g1.past k') (g2.past k')⟩
theorem t_notInD [Jx] (hr : Room k X.A) (hi : PE2 X i ti ti2) (ho : PE2 X o to to2) (hm : behindInMarks .NotIn o = false := by rfl) : PT2 X (.Compare i [.NotIn] [o] pos) (tB (tDNotIn ti to)) (dVal (dOp dNotInD ti2 to2)) :=
  ⟨pt_cmp (pc_dnotin (hu_in hr) hi.pe ho.pe) hm, fun ρ μ T F q I σ H hA hS Q g1 g2 => re_notInD hi.re ho.re ρ μ _ q I σ H hA hS _ fun d μ' v I' H' q' a' k' r' => re_val a' r' q' (g1.past k') (g2.past k')⟩
instance st_rem {ρ : Env2} {μ : Mu} {Q : DK} : Step (dRem to2 ti2 ρ μ Q) (to2 ρ μ fun x μ1 => dTy "list" x μ1 (ti2 ρ μ1 (dRemK x Q))) := ⟨fun q => q⟩
end Y

set_option Elab.async false
set_option linter.all false
set_option maxRecDepth 100000
set_option pp.maxSteps 1500
set_option maxHeartbeats 4000000
open PySem PySem.Spec PyProof.Rows L2 Y in
section
end
local macro_rules | `(tactic| walk_at "ne") => `(tactic| exact Y.ne_new' (by assumption) (by walk_at "mu"))
local macro_rules | `(tactic| walk_at "ne") => `(tactic| exact Y.ne_new (by assumption) (by walk_at "mu"))
local macro_rules | `(tactic| walk_at "ne") => `(tactic| exact (Y.ne_of_mup (by assumption)).symm)
local macro_rules | `(tactic| walk_at "ne") => `(tactic| exact Y.ne_of_mup (by assumption))
local macro_rules | `(tactic| walk_at "ne") => `(tactic| exact Y.ne_new' (by assumption) (by assumption))
local macro_rules | `(tactic| walk_at "ne") => `(tactic| exact Y.ne_new (by assumption) (by assumption))
local macro_rules | `(tactic| walk_at "ne") => `(tactic| (refine Ne.symm ?_; assumption))
local macro_rules | `(tactic| walk_at "ne") => `(tactic| assumption)
local macro_rules | `(tactic| walk_at "mu") => `(tactic| exact Y.look_ne (by walk_at "ne") (by walk_at "mu"))
local macro_rules | `(tactic| walk_at "mu") => `(tactic| exact Y.mup_same)
local macro_rules | `(tactic| walk_at "mu") => `(tactic| assumption)
local macro_rules | `(tactic| walk_at "as") => `(tactic| (with_reducible assumption))
local macro_rules | `(tactic| walk_at "as") => `(tactic| ((with_reducible refine' Y.asS_adr ?h); (case h => walk_at "mu")))
local macro_rules | `(tactic| walk_at "as") => `(tactic| ((with_reducible refine' Y.asL_adr ?h); (case h => walk_at "mu")))
local macro_rules | `(tactic| walk_at "as") => `(tactic| (with_reducible exact Y.asS_tup))
local macro_rules | `(tactic| walk_at "as") => `(tactic| (with_reducible exact Y.asS_lst))
local macro_rules | `(tactic| walk_at "as") => `(tactic| (with_reducible exact Y.asL_lst))
local macro_rules | `(tactic| walk_at "ty") => `(tactic| rfl)
local macro_rules | `(tactic| walk_at "ty") => `(tactic| ((with_reducible refine' Y.tyD_dk ?h); (case h => walk_at "mu")))
local macro_rules | `(tactic| walk_at "ty") => `(tactic| ((with_reducible refine' Y.tyD_lst ?h); (case h => walk_at "mu")))
local macro_rules | `(tactic| walk_at "ty") => `(tactic| (with_reducible assumption))
local macro_rules | `(tactic| walk_at "sz") => `(tactic| (refine Y.sz_lt ?_; decide +kernel))
local macro_rules | `(tactic| walk_at "sz") => `(tactic| (refine Y.sz_le ?_; decide +kernel))
local macro_rules | `(tactic| walk_at "sz") => `(tactic| (refine Y.sz_lt ?_; omega))
local macro_rules | `(tactic| walk_at "sz") => `(tactic| (refine Y.sz_le ?_; simp only [Y.len_app]; omega))
local macro_rules | `(tactic| walk_at "sz") => `(tactic| (refine Y.sz_le ?_; omega))
local macro_rules | `(tactic| walk_at "sz") => `(tactic| (refine Y.sz_lt ?_; simp only [List.length_cons, List.length_nil, List.length_append, List.length_map]; omega))
local macro_rules | `(tactic| walk_at "sz") => `(tactic| (refine Y.sz_le ?_; simp only [List.length_cons, List.length_nil, List.length_append, List.length_map]; omega))
local macro_rules | `(tactic| walk_at "sz") => `(tactic| (with_reducible assumption))
local macro_rules | `(tactic| walk_at "om") => `(tactic| (simp only [List.length_map, List.length_append, List.length_cons, List.length_nil]; omega))
local macro_rules | `(tactic| walk_at "om") => `(tactic| omega)
local macro_rules | `(tactic| walk_at "g") => `(tactic| (refine ⟨?_, ?_⟩ <;> walk_at "g"))
local macro_rules | `(tactic| walk_at "g") => `(tactic| (show Y.asL _ _ = _; walk_at "as"))
local macro_rules | `(tactic| walk_at "g") => `(tactic| trivial)
local macro_rules | `(tactic| walk_at "isi") => `(tactic| exact Y.isi_dt)
local macro_rules | `(tactic| walk_at "isi") => `(tactic| exact Y.isi_tt)
local macro_rules | `(tactic| walk_at "isi") => `(tactic| exact Y.isi_lt)
local macro_rules | `(tactic| walk_at "isi") => `(tactic| exact Y.isi_nt)
local macro_rules | `(tactic| walk_at "isi") => `(tactic| exact Y.isi_st)
local macro_rules | `(tactic| walk_at "isi") => `(tactic| exact Y.isi_bt)
local macro_rules | `(tactic| walk_at "isi") => `(tactic| exact Y.isi_it)
local macro_rules | `(tactic| walk_at "isi") => `(tactic| exact Y.isi_dl)
local macro_rules | `(tactic| walk_at "isi") => `(tactic| exact Y.isi_tl)
local macro_rules | `(tactic| walk_at "isi") => `(tactic| exact Y.isi_ll)
local macro_rules | `(tactic| walk_at "isi") => `(tactic| exact Y.isi_nl)
local macro_rules | `(tactic| walk_at "isi") => `(tactic| exact Y.isi_sl)
local macro_rules | `(tactic| walk_at "isi") => `(tactic| exact Y.isi_bl)
local macro_rules | `(tactic| walk_at "isi") => `(tactic| exact Y.isi_il)
local macro_rules | `(tactic| walk_at "isi") => `(tactic| exact Y.isi_ds)
local macro_rules | `(tactic| walk_at "isi") => `(tactic| exact Y.isi_ts)
local macro_rules | `(tactic| walk_at "isi") => `(tactic| exact Y.isi_ls)
local macro_rules | `(tactic| walk_at "isi") => `(tactic| exact Y.isi_ns)
local macro_rules | `(tactic| walk_at "isi") => `(tactic| exact Y.isi_ss)
local macro_rules | `(tactic| walk_at "isi") => `(tactic| exact Y.isi_bs)
local macro_rules | `(tactic| walk_at "isi") => `(tactic| exact Y.isi_is)
local macro_rules | `(tactic| walk_at "isi") => `(tactic| exact Y.isi_db)
local macro_rules | `(tactic| walk_at "isi") => `(tactic| exact Y.isi_tb)
local macro_rules | `(tactic| walk_at "isi") => `(tactic| exact Y.isi_lb)
local macro_rules | `(tactic| walk_at "isi") => `(tactic| exact Y.isi_nb)
local macro_rules | `(tactic| walk_at "isi") => `(tactic| exact Y.isi_sb)
local macro_rules | `(tactic| walk_at "isi") => `(tactic| exact Y.isi_bb)
local macro_rules | `(tactic| walk_at "isi") => `(tactic| exact Y.isi_ib)
local macro_rules | `(tactic| walk_at "isi") => `(tactic| exact Y.isi_di)
local macro_rules | `(tactic| walk_at "isi") => `(tactic| exact Y.isi_ti)
local macro_rules | `(tactic| walk_at "isi") => `(tactic| exact Y.isi_li)
local macro_rules | `(tactic| walk_at "isi") => `(tactic| exact Y.isi_ni)
local macro_rules | `(tactic| walk_at "isi") => `(tactic| exact Y.isi_si)
local macro_rules | `(tactic| walk_at "isi") => `(tactic| exact Y.isi_bi)
local macro_rules | `(tactic| walk_at "isi") => `(tactic| exact Y.isi_ii)
local macro_rules | `(tactic| walk_at "kl") => `(tactic| (refine' Y.kitL_miss ?h ?h2; (case h => walk_at "isi"); (case h2 => walk_at "kl")))
local macro_rules | `(tactic| walk_at "kl") => `(tactic| (refine' Y.kitL_hit ?h; (case h => walk_at "isi")))
local macro_rules | `(tactic| walk_at "kl") => `(tactic| exact Y.kitL_nil)
local macro_rules | `(tactic| walk_at "lk") => `(tactic| (refine' Y.lk_miss ?h ?h2; (case h => decide +kernel); (case h2 => walk_at "lk")))
local macro_rules | `(tactic| walk_at "lk") => `(tactic| exact Y.lk_hit)
local macro_rules | `(tactic| walk_at "ln") => `(tactic| (refine' Y.lk_no ?h ?h2; (case h => decide +kernel); (case h2 => walk_at "ln")))
local macro_rules | `(tactic| walk_at "ln") => `(tactic| exact Y.lk_nil)
local macro_rules | `(tactic| walk_at "sf") => `(tactic| (refine' Y.setF_miss ?h ?h2; (case h => decide +kernel); (case h2 => walk_at "sf")))
local macro_rules | `(tactic| walk_at "sf") => `(tactic| exact Y.setF_hit)
local macro_rules | `(tactic| walk_at "sf") => `(tactic| exact Y.setF_nil)
local macro_rules | `(tactic| walk_at "fl") => `(tactic| ((with_reducible refine' Y.fldsOf_obj ?h); (case h => rfl)))
local macro_rules | `(tactic| walk_at "fl") => `(tactic| ((with_reducible refine' Y.fldsOf_adr ?h); (case h => walk_at "mu")))
local macro_rules | `(tactic| walk_at "br") => `(tactic| ((with_reducible refine' Y.br_decF ?h ?_); (case h => first | assumption | decide +kernel | omega | (simp only [List.length_map, List.length_cons, List.length_nil]; omega))))
local macro_rules | `(tactic| walk_at "br") => `(tactic| ((with_reducible refine' Y.br_decT ?h ?_); (case h => first | (with_reducible rfl) | assumption | decide +kernel | omega | (simp only [List.length_map, List.length_cons, List.length_nil]; omega))))
local macro_rules | `(tactic| walk_at "br") => `(tactic| (with_reducible refine' Y.br_or ?_))
local macro_rules | `(tactic| walk_at "br") => `(tactic| (with_reducible refine' Y.br_and ?_))
local macro_rules | `(tactic| walk_at "br") => `(tactic| (with_reducible refine' Y.br_not ?_))
local macro_rules | `(tactic| walk_at "br") => `(tactic| (with_reducible refine' Y.br_f ?_))
local macro_rules | `(tactic| walk_at "br") => `(tactic| (with_reducible refine' Y.br_t ?_))
local macro_rules | `(tactic| walk_at "lg") => `(tactic| (refine Y.lg_small ?_; omega))
local macro_rules | `(tactic| walk_at "lg") => `(tactic| assumption)
local macro_rules | `(tactic| walk_at "pick") => `(tactic| ((with_reducible refine' Y.w_fld ?_); ((with_reducible refine' Y.w_var ?h ?_); (case h => rfl)); ((with_reducible refine' Y.w_fldK ?h ?h2 ?_); (case h => walk_at "fl"); (case h2 => walk_at "lk"))))
local macro_rules | `(tactic| walk_at "pick") => `(tactic| ((with_reducible refine' Y.w_meth ?_); ((with_reducible refine' Y.w_var ?h ?_); (case h => rfl)); ((with_reducible refine' Y.w_methK ?h ?h2 ?_); (case h => walk_at "fl"); (case h2 => walk_at "ln"))))
local macro_rules | `(tactic| walk_at "alt") => `(tactic| ((with_reducible refine' Y.w_altR ?_); walk_at "alt2"))
local macro_rules | `(tactic| walk_at "alt") => `(tactic| ((with_reducible refine' Y.w_altL ?_); walk_at "pick"))
local macro_rules | `(tactic| walk_at "alt2") => `(tactic| walk_at "pick")
local macro_rules | `(tactic| walk_at "alt2") => `(tactic| walk_at "alt")
local macro_rules | `(tactic| walk_at "yA") => `(tactic| ((with_reducible refine' Y.w_cutL ?h ?_); (case h => walk_at "as")))
local macro_rules | `(tactic| walk_at "yA") => `(tactic| ((with_reducible refine' Y.w_cutS ?h ?_); (case h => walk_at "sz")))
local macro_rules | `(tactic| walk_at "yA") => `(tactic| ((with_reducible refine' Y.w_lenS ?h ?_); (case h => walk_at "sz")))
local macro_rules | `(tactic| walk_at "yA") => `(tactic| ((with_reducible refine' Y.w_lenL ?h ?_); (case h => walk_at "as")))
local macro_rules | `(tactic| walk_at "yA") => `(tactic| ((with_reducible refine' Y.w_ixS ?h ?h2 ?_); (case h => walk_at "as"); (case h2 => rfl)))
local macro_rules | `(tactic| walk_at "yA") => `(tactic| ((with_reducible refine' Y.w_ixL ?h ?_); (case h => rfl)))
local macro_rules | `(tactic| walk_at "yA") => `(tactic| ((with_reducible refine' Y.w_ixT ?h ?_); (case h => rfl)))
local macro_rules | `(tactic| walk_at "yA") => `(tactic| ((with_reducible refine' Y.w_neD ?h ?h2 ?_); (case h => rfl); (case h2 => rfl)))
local macro_rules | `(tactic| walk_at "yA") => `(tactic| ((with_reducible refine' Y.w_neS ?h ?_); (case h => rfl)))
local macro_rules | `(tactic| walk_at "yA") => `(tactic| ((with_reducible refine' Y.w_eqD ?h ?h2 ?_); (case h => rfl); (case h2 => rfl)))
local macro_rules | `(tactic| walk_at "yA") => `(tactic| ((with_reducible refine' Y.w_eqS ?h ?_); (case h => rfl)))
local macro_rules | `(tactic| walk_at "yA") => `(tactic| ((with_reducible refine' Y.w_addL ?h ?h2 ?_); (case h => walk_at "as"); (case h2 => walk_at "as")))
local macro_rules | `(tactic| walk_at "yA") => `(tactic| ((with_reducible refine' Y.w_addS ?h ?_); (case h => walk_at "sz")))
local macro_rules | `(tactic| walk_at "yA") => `(tactic| ((with_reducible refine' Y.w_addT ?h ?_); (case h => walk_at "sz")))
local macro_rules | `(tactic| walk_at "yA") => `(tactic| (with_reducible refine' Y.w_fzL0 ?_))
local macro_rules | `(tactic| walk_at "yA") => `(tactic| (with_reducible refine' Y.w_fzL1 (by assumption) ?_))
local macro_rules | `(tactic| walk_at "yA") => `(tactic| (with_reducible refine' Y.w_fzN (by assumption) ?_))
local macro_rules | `(tactic| walk_at "yA") => `(tactic| ((with_reducible refine' Y.w_tupK ?h ?_); (case h => walk_at "sz")))
local macro_rules | `(tactic| walk_at "yB") => `(tactic| ((with_reducible refine' Y.w_lcK ?h ?_); (case h => walk_at "sz")))
local macro_rules | `(tactic| walk_at "yB") => `(tactic| ((with_reducible refine' Y.w_jVL ?h ?_); (case h => walk_at "as")))
local macro_rules | `(tactic| walk_at "yB") => `(tactic| ((with_reducible refine' Y.w_jEL ?h ?_); (case h => walk_at "as")))
local macro_rules | `(tactic| walk_at "yB") => `(tactic| ((with_reducible refine' Y.w_jZL ?h ?h2 ?_); (case h => walk_at "as"); (case h2 => walk_at "as")))
local macro_rules | `(tactic| walk_at "yB") => `(tactic| ((with_reducible refine' Y.w_jR2K ?h ?_); (case h => walk_at "om")))
local macro_rules | `(tactic| walk_at "yB") => `(tactic| ((with_reducible refine' Y.w_jR1K ?h ?h2 ?_); (case h => walk_at "om"); (case h2 => walk_at "om")))
local macro_rules | `(tactic| walk_at "yB") => `(tactic| ((with_reducible refine' Y.w_jLK ?h ?_); (case h => walk_at "as")))
local macro_rules | `(tactic| walk_at "yB") => `(tactic| ((with_reducible refine' Y.w_gNilE ?e ?_); (case e => rfl)))
local macro_rules | `(tactic| walk_at "yB") => `(tactic| ((with_reducible refine' Y.w_gConsE ?e ?_); (case e => rfl)))
local macro_rules | `(tactic| walk_at "yB") => `(tactic| ((with_reducible refine' Y.w_gUn ?h ?h2 ?_); (case h => walk_at "as"); (case h2 => rfl)))
local macro_rules | `(tactic| walk_at "yB") => `(tactic| ((with_reducible refine' Y.w_gUnT ?h ?_); (case h => rfl)))
local macro_rules | `(tactic| walk_at "yB") => `(tactic| ((with_reducible refine' Y.w_gIxK ?h ?h2 ?_); (case h => walk_at "mu"); (case h2 => rfl)))
local macro_rules | `(tactic| walk_at "yB") => `(tactic| ((with_reducible refine' Y.w_app ?h ?h2 ?_); (case h => walk_at "mu"); (case h2 => walk_at "sz")))
local macro_rules | `(tactic| walk_at "yB") => `(tactic| ((with_reducible refine' Y.w_tyL ?h ?_); (case h => walk_at "as")))
local macro_rules | `(tactic| walk_at "yB") => `(tactic| ((with_reducible refine' Y.w_newL ?h ?_); (case h => walk_at "sz")))
local macro_rules | `(tactic| walk_at "yB") => `(tactic| ((with_reducible refine' Y.w_jZLTK ?h ?_); (case h => walk_at "as")))
local macro_rules | `(tactic| walk_at "yB") => `(tactic| ((with_reducible refine' Y.w_jZTLK ?h ?_); (case h => walk_at "as")))
local macro_rules | `(tactic| walk_at "yC") => `(tactic| ((with_reducible refine' Y.w_isO ?h ?h1 ?h2 ?h3 ?_); (case h => walk_at "fl"); (case h1 => (refine' Y.ci_of ?a ?b; (case a => assumption); (case b => constructor))); (case h2 => exact Y.ClsD.own _); (case h3 => (refine' Y.kq_of ?a ?b; (case a => assumption); (case b => constructor)))))
local macro_rules | `(tactic| walk_at "yC") => `(tactic| ((with_reducible refine' Y.w_notInKd ?h ?_); (case h => rfl)))
local macro_rules | `(tactic| walk_at "yC") => `(tactic| ((with_reducible refine' Y.w_ixKd ?h ?_); (case h => rfl)))
local macro_rules | `(tactic| walk_at "yC") => `(tactic| ((with_reducible refine' Y.w_get2S ?h ?_); (case h => walk_at "mu")))
local macro_rules | `(tactic| walk_at "yC") => `(tactic| ((with_reducible refine' Y.w_get2K ?h ?_); (case h => walk_at "mu")))
local macro_rules | `(tactic| walk_at "yC") => `(tactic| ((with_reducible refine' Y.w_strI ?h ?_); (case h => walk_at "lg")))
local macro_rules | `(tactic| walk_at "yC") => `(tactic| ((with_reducible refine' Y.w_jsK ?h ?_); (case h => walk_at "sz")))
local macro_rules | `(tactic| walk_at "yC") => `(tactic| ((with_reducible refine' Y.w_jsK0 ?h ?_); (case h => walk_at "sz")))
local macro_rules | `(tactic| walk_at "yC") => `(tactic| ((with_reducible refine' Y.w_fmtI ?h ?_); (case h => walk_at "lg")))
local macro_rules | `(tactic| walk_at "yC") => `(tactic| ((with_reducible refine' Y.w_fmtS ?h ?_); (case h => walk_at "sz")))
local macro_rules | `(tactic| walk_at "yC") => `(tactic| ((with_reducible refine' Y.w_fzOK ?h ?_); (case h => walk_at "mu")))
local macro_rules | `(tactic| walk_at "yC") => `(tactic| ((with_reducible refine' Y.w_methK ?h ?h2 ?_); (case h => walk_at "fl"); (case h2 => walk_at "ln")))
local macro_rules | `(tactic| walk_at "yC") => `(tactic| ((with_reducible refine' Y.w_putFK ?h ?h2 ?h3 ?_); (case h => walk_at "mu"); (case h2 => walk_at "sf"); (case h3 => (simp only [List.length_cons, List.length_nil]; omega))))
local macro_rules | `(tactic| walk_at "yC") => `(tactic| ((with_reducible refine' Y.w_fldK ?h ?h2 ?_); (case h => walk_at "fl"); (case h2 => walk_at "lk")))
local macro_rules | `(tactic| walk_at "yC") => `(tactic| ((with_reducible refine' Y.w_notInDI ?h ?_); (case h => walk_at "mu")))
local macro_rules | `(tactic| walk_at "yC") => `(tactic| ((with_reducible refine' Y.w_notInDS ?h ?_); (case h => walk_at "mu")))
local macro_rules | `(tactic| walk_at "yC") => `(tactic| ((with_reducible refine' Y.w_inDI ?h ?_); (case h => walk_at "mu")))
local macro_rules | `(tactic| walk_at "yC") => `(tactic| ((with_reducible refine' Y.w_inDS ?h ?_); (case h => walk_at "mu")))
local macro_rules | `(tactic| walk_at "yC") => `(tactic| ((with_reducible refine' Y.w_dgetI ?h ?h2 ?_); (case h => walk_at "mu"); (case h2 => rfl)))
local macro_rules | `(tactic| walk_at "yC") => `(tactic| ((with_reducible refine' Y.w_dgetS ?h ?h2 ?_); (case h => walk_at "mu"); (case h2 => rfl)))
local macro_rules | `(tactic| walk_at "yC") => `(tactic| ((with_reducible refine' Y.w_dispE ?h ?e ?l ?_); (case h => walk_at "mu"); (case e => rfl); (case l => exact Nat.le_of_ble_eq_true rfl)))
local macro_rules | `(tactic| walk_at "yC") => `(tactic| ((with_reducible refine' Y.w_dnew ?_); (intro p hp)))
local macro_rules | `(tactic| walk_at "yC") => `(tactic| ((with_reducible refine' Y.w_disp ?_); (intro p hp)))
local macro_rules | `(tactic| walk_at "yC") => `(tactic| ((with_reducible refine' Y.w_dputS ?h ?h2 ?_); (case h => walk_at "mu"); (case h2 => walk_at "sz")))
local macro_rules | `(tactic| walk_at "yC") => `(tactic| ((with_reducible refine' Y.w_dputI ?h ?h2 ?_); (case h => walk_at "mu"); (case h2 => walk_at "sz")))
local macro_rules | `(tactic| walk_at "yC") => `(tactic| ((with_reducible refine' Y.w_pop0 ?h ?_); (case h => walk_at "mu")))
local macro_rules | `(tactic| walk_at "yE") => `(tactic| ((with_reducible refine' Y.w_isiTK ?h ?h2 ?_); (case h => walk_at "ty"); (case h2 => walk_at "kl")))
local macro_rules | `(tactic| walk_at "yE") => `(tactic| ((with_reducible refine' Y.w_revK ?h ?_); (case h => walk_at "as")))
local macro_rules | `(tactic| walk_at "yE") => `(tactic| ((with_reducible refine' Y.w_reverse ?h ?_); (case h => walk_at "mu")))
local macro_rules | `(tactic| walk_at "yE") => `(tactic| ((with_reducible refine' Y.w_clear ?h ?_); (case h => walk_at "mu")))
local macro_rules | `(tactic| walk_at "yE") => `(tactic| ((with_reducible refine' Y.w_extend ?h ?h2 ?h3 ?_); (case h => walk_at "mu"); (case h2 => walk_at "as"); (case h3 => walk_at "sz")))
local macro_rules | `(tactic| walk_at "yE") => `(tactic| ((with_reducible refine' Y.w_listOf ?h ?_); (case h => walk_at "as")))
local macro_rules | `(tactic| walk_at "yE") => `(tactic| ((with_reducible refine' Y.w_tupOf ?h ?_); (case h => walk_at "as")))
local macro_rules | `(tactic| walk_at "yE") => `(tactic| ((with_reducible refine' Y.w_isi ?h ?h2 ?_); (case h => walk_at "ty"); (case h2 => walk_at "isi")))
local macro_rules | `(tactic| walk_at "yE") => `(tactic| ((with_reducible refine' Y.w_lrg1K ?h ?_); (case h => exact L2.RgOk.of_le (by omega) (by omega) (by omega) (by omega))))
local macro_rules | `(tactic| walk_at "yE") => `(tactic| ((with_reducible refine' Y.w_jRv1K ?h ?_); (case h => walk_at "om")))
local macro_rules | `(tactic| walk_at "yE") => `(tactic| ((with_reducible refine' Y.w_notN0 ?h ?_); (case h => (intro z; cases z))))
local macro_rules | `(tactic| walk_at "yE") => `(tactic| ((with_reducible refine' Y.w_isN0 ?h ?_); (case h => (intro z; cases z))))
local macro_rules | `(tactic| walk_at "yE") => `(tactic| ((with_reducible refine' Y.w_shr ?h ?_); (case h => first | decide | omega)))
local macro_rules | `(tactic| walk_at "yE") => `(tactic| ((with_reducible refine' Y.w_shl ?h ?_); (case h => exact Y.cpow_small (by omega) (by omega) (by first | decide | omega))))
local macro_rules | `(tactic| walk_at "yE") => `(tactic| ((with_reducible refine' Y.w_shl1 ?h ?_); (case h => first | omega | assumption)))
local macro_rules | `(tactic| walk_at "yE") => `(tactic| ((with_reducible refine' Y.w_pow ?h ?_); (case h => exact Y.cpow_small (by omega) (by omega) (by decide))))
local macro_rules | `(tactic| walk_at "yE") => `(tactic| ((with_reducible refine' Y.w_fdiv ?h ?_); (case h => exact Y.cdiv_small (by omega) (by omega))))
local macro_rules | `(tactic| walk_at "yE") => `(tactic| ((with_reducible refine' Y.w_mod ?h ?_); (case h => first | decide | omega)))
local macro_rules | `(tactic| walk_at "yE") => `(tactic| ((with_reducible refine' Y.w_mulL ?h (by decide) (by decide) ?_); (case h => walk_at "as")))
local macro_rules | `(tactic| walk_at "yE") => `(tactic| ((with_reducible refine' Y.w_mulI ?h ?_); (case h => first | exact Y.cmul_r (by omega) (by omega) | exact Y.cmul_l (by omega) (by omega))))
local macro_rules | `(tactic| walk_at "yE") => `(tactic| ((with_reducible refine' Y.w_tupText ?h ?_); (case h => walk_at "sz")))
local macro_rules | `(tactic| walk_at "yE") => `(tactic| ((with_reducible refine' Y.w_listText ?h ?_); (case h => walk_at "sz")))
local macro_rules | `(tactic| walk_at "yl") => `(tactic| walk_at "alt")
local macro_rules | `(tactic| walk_at "yl") => `(tactic| (intro p hp; (with_reducible refine' Y.w_fzL1 (by assumption) ?_)))
local macro_rules | `(tactic| walk_at "yl") => `(tactic| (intro p hp; (with_reducible refine' Y.w_fzN (by assumption) ?_)))
local macro_rules | `(tactic| walk_at "y1") => `(tactic| walk_at "yl")
local macro_rules | `(tactic| walk_at "y1") => `(tactic| walk_at "br")
local macro_rules | `(tactic| walk_at "y1") => `(tactic| ((with_reducible refine' Y.HdE.go ?_); walk_at "yE"))
local macro_rules | `(tactic| walk_at "y1") => `(tactic| ((with_reducible refine' Y.HdC.go ?_); walk_at "yC"))
local macro_rules | `(tactic| walk_at "y1") => `(tactic| ((with_reducible refine' Y.HdB.go ?_); walk_at "yB"))
local macro_rules | `(tactic| walk_at "y1") => `(tactic| ((with_reducible refine' Y.HdA.go ?_); walk_at "yA"))
local macro_rules | `(tactic| walk_at "y1") => `(tactic| ((with_reducible refine' Y.w_var ?h ?_); (case h => rfl)))
local macro_rules | `(tactic| walk_at "y1") => `(tactic| (with_reducible refine' Y.Step.go ?_))
local macro_rules | `(tactic| walk_at "y") => `(tactic| repeat walk_at "y1")
local macro_rules | `(tactic| walk_at "t1") => `(tactic| ((with_reducible refine' Y.w_turn0E ?e ?h ?_); (case e => rfl); (case h => walk_at "g")))
local macro_rules | `(tactic| walk_at "t1") => `(tactic| ((with_reducible refine' Y.w_turnE ?e ?h ?_); (case e => rfl); (case h => walk_at "g")))
local macro_rules | `(tactic| walk_at "t1") => `(tactic| ((with_reducible refine' Y.w_lcs0E ?e ?h ?_); (case e => rfl); (case h => walk_at "g")))
local macro_rules | `(tactic| walk_at "t1") => `(tactic| ((with_reducible refine' Y.w_lcsE ?e ?h ?_); (case e => rfl); (case h => walk_at "g")))
local macro_rules | `(tactic| walk_at "t1") => `(tactic| ((with_reducible refine' Y.w_lcs0 ?h ?_); (case h => walk_at "g")))
local macro_rules | `(tactic| walk_at "t1") => `(tactic| ((with_reducible refine' Y.w_lcs ?h ?_); (case h => walk_at "g")))
local macro_rules | `(tactic| walk_at "t1") => `(tactic| ((with_reducible refine' Y.w_turn0 ?h ?_); (case h => walk_at "g")))
local macro_rules | `(tactic| walk_at "t1") => `(tactic| ((with_reducible refine' Y.w_turn ?h ?_); (case h => walk_at "g")))
local macro_rules | `(tactic| walk_at "t1") => `(tactic| (with_reducible refine' Y.Cl.same ?_))
local macro_rules | `(tactic| walk_at "c1") => `(tactic| ((with_reducible refine' Y.w_turn0E ?e ?h ?_); (case e => rfl); (case h => walk_at "g")))
local macro_rules | `(tactic| walk_at "c1") => `(tactic| ((with_reducible refine' Y.w_turnE ?e ?h ?_); (case e => rfl); (case h => walk_at "g")))
local macro_rules | `(tactic| walk_at "c1") => `(tactic| ((with_reducible refine' Y.w_lcs0E ?e ?h ?_); (case e => rfl); (case h => walk_at "g")))
local macro_rules | `(tactic| walk_at "c1") => `(tactic| ((with_reducible refine' Y.w_lcsE ?e ?h ?_); (case e => rfl); (case h => walk_at "g")))
local macro_rules | `(tactic| walk_at "c1") => `(tactic| ((with_reducible refine' Y.w_lcs0 ?h ?_); (case h => walk_at "g")))
local macro_rules | `(tactic| walk_at "c1") => `(tactic| ((with_reducible refine' Y.w_lcs ?h ?_); (case h => walk_at "g")))
local macro_rules | `(tactic| walk_at "c1") => `(tactic| ((with_reducible refine' Y.w_turn0 ?h ?_); (case h => walk_at "g")))
local macro_rules | `(tactic| walk_at "c1") => `(tactic| ((with_reducible refine' Y.w_turn ?h ?_); (case h => walk_at "g")))
local macro_rules | `(tactic| walk_at "yc") => `(tactic| repeat first | walk_at "y1" | walk_at "c1")
local macro_rules | `(tactic| walk_at "yt") => `(tactic| repeat first | walk_at "y1" | walk_at "t1")
local macro_rules | `(tactic| walk_at "less") => `(tactic| (refine ⟨Or.inr rfl, ?_⟩; walk_at "less"))
local macro_rules | `(tactic| walk_at "less") => `(tactic| (refine ⟨Or.inl rfl, ?_⟩; walk_at "less"))
local macro_rules | `(tactic| walk_at "less") => `(tactic| exact trivial)
local macro_rules | `(tactic| walk_at "non") => `(tactic| ((with_reducible refine' Y.none_sub ?s ?h); (case h => (with_reducible assumption)); (case s => walk_at "sub")))
local macro_rules | `(tactic| walk_at "non") => `(tactic| (with_reducible assumption))
local macro_rules | `(tactic| walk_at "sub") => `(tactic| ((with_reducible refine' Y.Sub.trans ?h (Y.Sub.new ?hp)); (case hp => (with_reducible assumption)); (case h => walk_at "sub")))
local macro_rules | `(tactic| walk_at "sub") => `(tactic| ((with_reducible refine' Y.Sub.del ?h ?hp); (case hp => walk_at "non"); (case h => walk_at "sub")))
local macro_rules | `(tactic| walk_at "sub") => `(tactic| ((with_reducible refine' Y.Sub.over ?h ?hp); (case hp => walk_at "non"); (case h => walk_at "sub")))
local macro_rules | `(tactic| walk_at "sub") => `(tactic| (with_reducible assumption))
local macro_rules | `(tactic| walk_at "sub") => `(tactic| (with_reducible exact Y.Sub.refl))

namespace W
open PySem PySem.Spec PyProof.Rows L2 Y
def topS (i : Nat) : Stmt := PySem.Challenge.pw_rowsbeneath_k30_whole_every_order_holds.main.body.getD i (.Pass ⟨0, 0, 0, 0⟩)
abbrev sis_whole : Stmt := topS 1
abbrev nis_whole : List Str := ["thing"]
theorem scis_whole : FnScope ["thing"] ["thing"] (defScope sis_whole) := ⟨rfl, rfl, rfl, by decide +kernel, rfl, by decide +kernel, by decide +kernel⟩
abbrev sis_within : Stmt := topS 2
abbrev nis_within : List Str := ["thing", "low", "high"]
theorem scis_within : FnScope ["thing", "low", "high"] ["thing", "low", "high"] (defScope sis_within) := ⟨rfl, rfl, rfl, by decide +kernel, rfl, by decide +kernel, by decide +kernel⟩
abbrev sParts_init : Stmt := inClass (topS 4) 0
abbrev nParts_init : List Str := ["self"]
theorem scParts_init : FnScope ["self"] ["self"] (defScope sParts_init) := ⟨rfl, rfl, rfl, by decide +kernel, rfl, by decide +kernel, by decide +kernel⟩
abbrev sParts_part_in : Stmt := inClass (topS 4) 1
abbrev nParts_part_in : List Str := ["self", "e", "own", "one"]
theorem scParts_part_in : FnScope ["self", "e", "own", "one"] ["self", "e"] (defScope sParts_part_in) := ⟨rfl, rfl, rfl, by decide +kernel, rfl, by decide +kernel, by decide +kernel⟩
abbrev srests_of : Stmt := topS 5
abbrev nrests_of : List Str := ["one"]
theorem scrests_of : FnScope ["one"] ["one"] (defScope srests_of) := ⟨rfl, rfl, rfl, by decide +kernel, rfl, by decide +kernel, by decide +kernel⟩
abbrev sparts_and_roots : Stmt := topS 6
abbrev nparts_and_roots : List Str := ["sets", "parts", "roots", "one", "e"]
theorem scparts_and_roots : FnScope ["sets", "parts", "roots", "one", "e"] ["sets"] (defScope sparts_and_roots) := ⟨rfl, rfl, rfl, by decide +kernel, rfl, by decide +kernel, by decide +kernel⟩
abbrev sparts_of : Stmt := topS 7
abbrev nparts_of : List Str := ["sets", "parts", "roots"]
theorem scparts_of : FnScope ["sets", "parts", "roots"] ["sets"] (defScope sparts_of) := ⟨rfl, rfl, rfl, by decide +kernel, rfl, by decide +kernel, by decide +kernel⟩
abbrev sroots_of : Stmt := topS 8
abbrev nroots_of : List Str := ["sets", "parts", "roots"]
theorem scroots_of : FnScope ["sets", "parts", "roots"] ["sets"] (defScope sroots_of) := ⟨rfl, rfl, rfl, by decide +kernel, rfl, by decide +kernel, by decide +kernel⟩
abbrev sown_parts : Stmt := topS 9
abbrev nown_parts : List Str := ["part", "one"]
theorem scown_parts : FnScope ["part", "one"] ["part"] (defScope sown_parts) := ⟨rfl, rfl, rfl, by decide +kernel, rfl, by decide +kernel, by decide +kernel⟩
abbrev sis_order : Stmt := topS 10
abbrev nis_order : List Str := ["parts", "order", "ahead", "number", "own"]
theorem scis_order : FnScope ["parts", "order", "ahead", "number", "own"] ["parts", "order"] (defScope sis_order) := ⟨rfl, rfl, rfl, by decide +kernel, rfl, by decide +kernel, by decide +kernel⟩
abbrev sheld_by : Stmt := topS 11
abbrev nheld_by : List Str := ["sets", "order", "parts", "found", "held", "number"]
theorem scheld_by : FnScope ["sets", "order", "parts", "found", "held", "number"] ["sets", "order"] (defScope sheld_by) := ⟨rfl, rfl, rfl, by decide +kernel, rfl, by decide +kernel, by decide +kernel⟩
abbrev sneeds_of : Stmt := topS 12
abbrev nneeds_of : List Str := ["e", "one", "other"]
theorem scneeds_of : FnScope ["e", "one", "other"] ["e"] (defScope sneeds_of) := ⟨rfl, rfl, rfl, by decide +kernel, rfl, by decide +kernel, by decide +kernel⟩
abbrev sfalling : Stmt := topS 13
abbrev nfalling : List Str := ["sets", "roots", "found", "one", "root", "e", "number"]
theorem scfalling : FnScope ["sets", "roots", "found", "one", "root", "e", "number"] ["sets"] (defScope sfalling) := ⟨rfl, rfl, rfl, by decide +kernel, rfl, by decide +kernel, by decide +kernel⟩
abbrev sneeds_of_sets : Stmt := topS 14
abbrev nneeds_of_sets : List Str := ["sets", "found", "at", "less", "told", "number"]
theorem scneeds_of_sets : FnScope ["sets", "found", "at", "less", "told", "number"] ["sets"] (defScope sneeds_of_sets) := ⟨rfl, rfl, rfl, by decide +kernel, rfl, by decide +kernel, by decide +kernel⟩
abbrev sLcell : Stmt := topS 16
abbrev nLcell : List Str := ["_law_script", "_law_k"]
theorem scLcell : FnScope ["_law_script", "_law_k"] ["_law_script", "_law_k"] (defScope sLcell) := ⟨rfl, rfl, rfl, by decide +kernel, rfl, by decide +kernel, by decide +kernel⟩
abbrev sLstream : Stmt := topS 17
abbrev nLstream : List Str := ["_law_cell_here"]
theorem scLstream : FnScope ["_law_cell_here"] ["_law_cell_here"] (defScope sLstream) := ⟨rfl, rfl, rfl, by decide +kernel, rfl, by decide +kernel, by decide +kernel⟩
abbrev sLtake : Stmt := topS 18
abbrev nLtake : List Str := ["_law_stream_here", "_law_many", "_law_digit", "_law_number"]
theorem scLtake : FnScope ["_law_stream_here", "_law_many", "_law_digit", "_law_number"] ["_law_stream_here", "_law_many"] (defScope sLtake) := ⟨rfl, rfl, rfl, by decide +kernel, rfl, by decide +kernel, by decide +kernel⟩
abbrev sLe : Stmt := topS 19
abbrev nLe : List Str := ["_law_stream_here", "_law_deep", "_law_way", "_law_sel", "_law_number", "_law_field", "_law_op"]
theorem scLe : FnScope ["_law_stream_here", "_law_deep", "_law_way", "_law_sel", "_law_number", "_law_field", "_law_op"] ["_law_stream_here", "_law_deep"] (defScope sLe) := ⟨rfl, rfl, rfl, by decide +kernel, rfl, by decide +kernel, by decide +kernel⟩
abbrev sLsets : Stmt := topS 20
abbrev nLsets : List Str := ["_law_stream_here", "_law_sets_here", "_law_deep", "_law_k", "_law_way", "_law_sel", "_law_one"]
theorem scLsets : FnScope ["_law_stream_here", "_law_sets_here", "_law_deep", "_law_k", "_law_way", "_law_sel", "_law_one"] ["_law_stream_here"] (defScope sLsets) := ⟨rfl, rfl, rfl, by decide +kernel, rfl, by decide +kernel, by decide +kernel⟩
abbrev sLpart : Stmt := topS 21
abbrev nLpart : List Str := ["_law_e_here", "_law_parts_here", "_law_inner", "_law_one", "_law_other"]
theorem scLpart : FnScope ["_law_e_here", "_law_parts_here", "_law_inner", "_law_one", "_law_other"] ["_law_e_here", "_law_parts_here"] (defScope sLpart) := ⟨rfl, rfl, rfl, by decide +kernel, rfl, by decide +kernel, by decide +kernel⟩
abbrev sLparts : Stmt := topS 22
abbrev nLparts : List Str := ["_law_sets_here", "_law_parts_here", "_law_roots", "_law_one", "_law_first"]
theorem scLparts : FnScope ["_law_sets_here", "_law_parts_here", "_law_roots", "_law_one", "_law_first"] ["_law_sets_here"] (defScope sLparts) := ⟨rfl, rfl, rfl, by decide +kernel, rfl, by decide +kernel, by decide +kernel⟩
abbrev sLown : Stmt := topS 23
abbrev nLown : List Str := ["_law_part_here", "_law_one"]
theorem scLown : FnScope ["_law_part_here", "_law_one"] ["_law_part_here"] (defScope sLown) := ⟨rfl, rfl, rfl, by decide +kernel, rfl, by decide +kernel, by decide +kernel⟩
abbrev sLorder : Stmt := topS 24
abbrev nLorder : List Str := ["_law_stream_here", "_law_parts_here", "_law_left", "_law_order_here", "_law_ready", "_law_one", "_law_own_here"]
theorem scLorder : FnScope ["_law_stream_here", "_law_parts_here", "_law_left", "_law_order_here", "_law_ready", "_law_one", "_law_own_here"] ["_law_stream_here", "_law_parts_here"] (defScope sLorder) := ⟨rfl, rfl, rfl, by decide +kernel, rfl, by decide +kernel, by decide +kernel⟩
abbrev sLheld : Stmt := topS 25
abbrev nLheld : List Str := ["_law_parts_here", "_law_order_here", "_law_held_here", "_law_found", "_law_number", "_law_one"]
theorem scLheld : FnScope ["_law_parts_here", "_law_order_here", "_law_held_here", "_law_found", "_law_number", "_law_one"] ["_law_parts_here", "_law_order_here"] (defScope sLheld) := ⟨rfl, rfl, rfl, by decide +kernel, rfl, by decide +kernel, by decide +kernel⟩
abbrev sLno_orders : Stmt := topS 26
abbrev nLno_orders : List Str := ["_law_stream_here", "_law_parts_here", "_law_order_here", "_law_bad", "_law_at", "_law_ahead", "_law_behind", "_law_pairs", "_law_number", "_law_part_here", "_law_turn", "_law_here", "_law_there", "_law_some", "_law_own_here"]
theorem scLno_orders : FnScope ["_law_stream_here", "_law_parts_here", "_law_order_here", "_law_bad", "_law_at", "_law_ahead", "_law_behind", "_law_pairs", "_law_number", "_law_part_here", "_law_turn", "_law_here", "_law_there", "_law_some", "_law_own_here"] ["_law_stream_here", "_law_parts_here", "_law_order_here"] (defScope sLno_orders) := ⟨rfl, rfl, rfl, by decide +kernel, rfl, by decide +kernel, by decide +kernel⟩
abbrev sLright : Stmt := topS 27
abbrev nLright : List Str := ["_law_stream_here", "_law_sets_here", "_law_parts_here", "_law_needed", "_law_order_here", "_law_handed", "_law_held_here", "_law_thing"]
theorem scLright : FnScope ["_law_stream_here", "_law_sets_here", "_law_parts_here", "_law_needed", "_law_order_here", "_law_handed", "_law_held_here", "_law_thing"] ["_law_stream_here", "_law_sets_here", "_law_parts_here", "_law_needed"] (defScope sLright) := ⟨rfl, rfl, rfl, by decide +kernel, rfl, by decide +kernel, by decide +kernel⟩
abbrev slaw : Stmt := topS 28
abbrev nlaw : List Str := ["_law_script", "_law_k", "_law_stream_here", "_law_sets_here", "_law_parts_here", "_law_roots", "_law_turn"]
theorem sclaw : FnScope ["_law_script", "_law_k", "_law_stream_here", "_law_sets_here", "_law_parts_here", "_law_roots", "_law_turn"] ["_law_script"] (defScope slaw) := ⟨rfl, rfl, rfl, by decide +kernel, rfl, by decide +kernel, by decide +kernel⟩
structure Tt (K : PySem.W.Frag) (mg : Str → Option Value) (cc : Nat → Addr) : Prop where
  k_Parts : Kl K mg "Parts" (cc 0)
  xis_whole : Tx K mg "is_whole" sis_whole ["thing"]
  xis_within : Tx K mg "is_within" sis_within ["thing", "low", "high"]
  xParts_init : Tm K (cc 0) "__init__" "Parts.__init__" sParts_init ["self"]
  xParts_part_in : Tm K (cc 0) "part_in" "Parts.part_in" sParts_part_in ["self", "e"]
  xrests_of : Tx K mg "rests_of" srests_of ["one"]
  xparts_and_roots : Tx K mg "parts_and_roots" sparts_and_roots ["sets"]
  xparts_of : Tx K mg "parts_of" sparts_of ["sets"]
  xroots_of : Tx K mg "roots_of" sroots_of ["sets"]
  xown_parts : Tx K mg "own_parts" sown_parts ["part"]
  xis_order : Tx K mg "is_order" sis_order ["parts", "order"]
  xheld_by : Tx K mg "held_by" sheld_by ["sets", "order"]
  xneeds_of : Tx K mg "needs_of" sneeds_of ["e"]
  xfalling : Tx K mg "falling" sfalling ["sets"]
  xneeds_of_sets : Tx K mg "needs_of_sets" sneeds_of_sets ["sets"]
  xLcell : Tx K mg "_law_cell" sLcell ["_law_script", "_law_k"]
  xLstream : Tx K mg "_law_stream" sLstream ["_law_cell_here"]
  xLtake : Tx K mg "_law_take" sLtake ["_law_stream_here", "_law_many"]
  xLe : Tx K mg "_law_e" sLe ["_law_stream_here", "_law_deep"]
  xLsets : Tx K mg "_law_sets" sLsets ["_law_stream_here"]
  xLpart : Tx K mg "_law_part" sLpart ["_law_e_here", "_law_parts_here"]
  xLparts : Tx K mg "_law_parts" sLparts ["_law_sets_here"]
  xLown : Tx K mg "_law_own" sLown ["_law_part_here"]
  xLorder : Tx K mg "_law_order" sLorder ["_law_stream_here", "_law_parts_here"]
  xLheld : Tx K mg "_law_held" sLheld ["_law_parts_here", "_law_order_here"]
  xLno_orders : Tx K mg "_law_no_orders" sLno_orders ["_law_stream_here", "_law_parts_here", "_law_order_here"]
  xLright : Tx K mg "_law_right" sLright ["_law_stream_here", "_law_sets_here", "_law_parts_here", "_law_needed"]
  xlaw : Tx K mg "law" slaw ["_law_script"]
  b_bool : mg "bool" = none
  b_enumerate : mg "enumerate" = none
  b_int : mg "int" = none
  b_isinstance : mg "isinstance" = none
  b_len : mg "len" = none
  b_list : mg "list" = none
  b_max : mg "max" = none
  b_min : mg "min" = none
  b_range : mg "range" = none
  b_sorted : mg "sorted" = none
  b_str : mg "str" = none
  b_tuple : mg "tuple" = none
  b_zip : mg "zip" = none
  n_Parts_rows : NoAttr K (cc 0) "rows"
variable {P : Program} {w : World} {K : PySem.W.Frag} {mg : Str → Option Value} {base : Heap} {cc : Nat → Addr}
/-- a stream: three ints -/
def Strm (μ : Mu) (s : Addr) : Prop := ∃ a b c : Int, μ s = some (.lst [.int a, .int b, .int c])
/-- a stream was drawn from, nothing else changed -/
def Tk (s : Addr) (μ μ' : Mu) : Prop := Strm μ' s ∧ ∀ b, b ≠ s → μ' b = μ b
theorem Tk.refl {s : Addr} {μ : Mu} (h : Strm μ s) : Tk s μ μ := ⟨h, fun _ _ => rfl⟩
theorem Tk.trans {s : Addr} {μ μ1 μ2 : Mu} (a : Tk s μ μ1) (b : Tk s μ1 μ2) : Tk s μ μ2 := ⟨b.1, fun x h => (b.2 x h).trans (a.2 x h)⟩
theorem Tk.st {s : Addr} {μ μ' : Mu} (a : Tk s μ μ') : Strm μ' s := a.1
theorem Strm.some {s : Addr} {μ : Mu} (h : Strm μ s) : ∃ m, μ s = some m := by obtain ⟨a, b, c, e⟩ := h; exact ⟨_, e⟩
theorem Tk.keep {s p : Addr} {μ μ' : Mu} {r : Option MO} (a : Tk s μ μ') (h : μ p = r) (hp : p ≠ s) : μ' p = r := (a.2 p hp).trans h
theorem Tk.none {s p : Addr} {μ μ' : Mu} (a : Tk s μ μ') (h : μ p = none) (hs : Strm μ s) : μ' p = none := by
  obtain ⟨_, _, _, e⟩ := hs
  exact (a.2 p (fun z => by rw [z, e] at h; cases h)).trans h
theorem Strm.new {s p : Addr} {μ : Mu} {m : MO} (h : Strm μ s) (hp : μ p = none) : Strm (mup μ p m) s := by
  obtain ⟨a, b, c, e⟩ := h
  exact ⟨a, b, c, by rw [mup_ne (ne_new hp e)]; exact e⟩
theorem Strm.ne {s p : Addr} {μ : Mu} (h : Strm μ s) (hp : μ p = none) : p ≠ s := by
  obtain ⟨a, b, c, e⟩ := h
  exact ne_new' hp e
/-! ### _law_cell -/
def spLcell : Sp2 := fun ds μ Q _ => ∃ ns k, ds = [.scr ns, .int k] ∧ 0 ≤ k ∧ k < 1000000 ∧ ∀ n, Q (.int n) μ
theorem DLcell (T : Tt K mg cc) : Df P w K mg base "_law_cell" 1 ["_law_script", "_law_k"] (spLcell) := by
  refine T.xLcell.ok scLcell (by rintro ds μ Q E ⟨ns, k, rfl, h0, h1, q⟩ <;> rfl) (fun f cdv A outer s H E hr => ⟨_, _, (b_cons (s_if (t_lt (e_pv 1 (pv 1)) (e_len (by rfl) T.b_len (a_cons (e_pv 0 (pv 0)) a_nil)))
      (b_one (s_ret (e_ixScr (e_pv 0 (pv 0)) (e_pv 1 (pv 1)) (fun _ _ => rfl))))
      b_nil)
      (b_one (s_ret (e_add (e_mulA e_int (e_pv 1 (pv 1))) e_int)))), ?_⟩)
  rintro ds μ Q E ⟨ns, k, rfl, h0, h1, q⟩
  walk_at "y"
  refine br_dec (fun h => ?_) (fun h => ?_)
  · walk_at "y"
    obtain ⟨n, e, _⟩ := atI_ex h0 h
    exact w_ixScr e (RtC.same (q _))
  · walk_at "y"
    exact RtC.same (q _)
/-! ### _law_stream -/
def spLstream : Sp2 := fun ds μ Q _ => ∃ c, ds = [.int c] ∧ ∀ p μ', μ p = none → Strm μ' p → (∀ b, b ≠ p → μ' b = μ b) → Q (.adr p) μ'
theorem DLstream (T : Tt K mg cc) : Df P w K mg base "_law_stream" 1 ["_law_cell_here"] (spLstream) := by
  refine T.xLstream.ok scLstream (by rintro ds μ Q E ⟨c, rfl, q⟩ <;> rfl) (fun f cdv A outer s H E hr => ⟨_, _, (b_one (s_ret (e_lst (a_cons (e_mulA (e_pv 0 (pv 0)) (e_int1 (by rfl) T.b_int (a_cons (e_ge (e_pv 0 (pv 0)) (e_pow e_int e_int)) a_nil))) (a_cons (e_mod (e_pv 0 (pv 0)) e_int) (a_cons e_int a_nil)))))), ?_⟩)
  rintro ds μ Q E ⟨c, rfl, q⟩
  walk_at "y"
  intro p hp
  walk_at "y"
  exact RtC.same (q _ _ hp ⟨_, _, _, mup_same⟩ (fun b hb => mup_ne hb))
/-! ### _law_take -/
def spLtake : Sp2 := fun ds μ Q _ => ∃ s n, ds = [.adr s, .int n] ∧ Strm μ s ∧ 0 < n ∧ n < 1606938044258990275541962092341162602522202993782792835301376 ∧ ∀ r μ', 0 ≤ r → r < n → Tk s μ μ' → Q (.int r) μ'
theorem DLtake (T : Tt K mg cc) : Df P w K mg base "_law_take" 1 ["_law_stream_here", "_law_many"] (spLtake) := by
  refine T.xLtake.ok scLtake (by rintro ds μ Q E ⟨s, n, rfl, ⟨a, b, c, hs⟩, h0, h1, q⟩ <;> rfl) (fun f cdv A outer s H E hr => ⟨_, _, (b_cons (s_if (t_gt (e_ix (e_pv 0 (pv 0)) e_int (fun _ _ => rfl)) e_int)
      (b_cons (s_set (i := 2) (e_mod (e_ix (e_pv 0 (pv 0)) e_int (fun _ _ => rfl)) (e_pv 1 (pv 1))) scLtake.nd rfl (by first | exact Or.inl rfl | exact Or.inr rfl))
      (b_cons (s_setIx (e_fdiv (e_ix (e_pv 0 (pv 0)) e_int (fun _ _ => rfl)) (e_pv 1 (pv 1))) (e_pv 0 (pv 0)) e_int)
      (b_one (s_ret (e_pv 2 (pv 2))))))
      b_nil)
      (b_cons (s_setIx (e_add (e_ix (e_pv 0 (pv 0)) e_int (fun _ _ => rfl)) e_int) (e_pv 0 (pv 0)) e_int)
      (b_cons (s_set (i := 3) (e_mod (e_add (e_mulA (e_add (e_ix (e_pv 0 (pv 0)) e_int (fun _ _ => rfl)) (e_mulA e_int (e_ix (e_pv 0 (pv 0)) e_int (fun _ _ => rfl)))) e_int) e_int) e_int) scLtake.nd rfl (by first | exact Or.inl rfl | exact Or.inr rfl))
      (b_cons (s_set (i := 3) (e_mod (e_mulA (e_pv 3 (pv 3)) (e_pv 3 (pv 3))) e_int) scLtake.nd rfl (by first | exact Or.inl rfl | exact Or.inr rfl))
      (b_one (s_ret (e_mod (e_fdiv (e_mod (e_add (e_mulA (e_pv 3 (pv 3)) (e_pv 3 (pv 3))) (e_mulA e_int (e_ix (e_pv 0 (pv 0)) e_int (fun _ _ => rfl)))) e_int) e_int) (e_pv 1 (pv 1))))))))), ?_⟩)
  rintro ds μ Q E ⟨s, n, rfl, ⟨a, b, c, hs⟩, h0, h1, q⟩
  walk_at "y"
  refine br_dec (fun h => ?_) (fun h => ?_)
  · walk_at "y"
    exact RtC.same (q _ _ (Int.emod_nonneg _ (by omega)) (Int.emod_lt_of_pos _ h0) ⟨⟨_, _, _, mup_same⟩, fun b hb => mup_ne hb⟩)
  · walk_at "y"
    exact RtC.same (q _ _ (Int.emod_nonneg _ (by omega)) (Int.emod_lt_of_pos _ h0) ⟨⟨_, _, _, mup_same⟩, fun b hb => mup_ne hb⟩)

/-- a text of no more than so many signs, all of them signs -/
def TOk (n : Nat) (z : Str) : Prop := z.length ≤ n ∧ PyData.strOk z = true
theorem TOk.mono {n m : Nat} {z : Str} (h : TOk n z) (l : n ≤ m) : TOk m z := ⟨Nat.le_trans h.1 l, h.2⟩
theorem len_app (a b : Str) : (a ++ b).length = a.length + b.length := by
  show (a.cps ++ b.cps).size = _
  rw [Array.size_append]; rfl
theorem TOk.app {n m : Nat} {a b : Str} (h : TOk n a) (g : TOk m b) : TOk (n + m) (a ++ b) := by
  refine ⟨by rw [len_app]; have := h.1; have := g.1; omega, ?_⟩
  show (a.cps ++ b.cps).all (· < 0x110000) = true
  rw [Array.all_append]
  exact Bool.and_eq_true _ _ ▸ ⟨h.2, g.2⟩
theorem len_cut (z : Str) (lo hi : Option Int) : (cutS z lo hi).length ≤ z.length := by
  show (((z.cps.toList.drop _).take _).toArray).size ≤ z.cps.size
  rw [List.size_toArray, List.length_take, List.length_drop, Array.length_toList]; omega
theorem TOk.cut {n : Nat} {z : Str} (h : TOk n z) (lo hi : Option Int) : TOk n (cutS z lo hi) := by
  refine ⟨Nat.le_trans (len_cut z lo hi) h.1, ?_⟩
  have h2 := h.2
  show (((z.cps.toList.drop _).take _).toArray).all (· < 0x110000) = true
  rw [List.all_toArray, List.all_eq_true]
  intro c hc
  have h3 : z.cps.toList.all (· < 0x110000) = true := by rw [Array.all_toList]; exact h2
  exact List.all_eq_true.mp h3 c (List.mem_of_mem_drop (List.mem_of_mem_take hc))
/-- a small letter -/
def inL (c : Nat) : Bool := decide (97 ≤ c ∧ c ≤ 122)
theorem letters_in (c : Nat) : decide (c ∈ ("abcdefghijklmnopqrstuvwxyz" : Str).cps.toList) = inL c := by
  rw [show ("abcdefghijklmnopqrstuvwxyz" : Str).cps.toList = [97, 98, 99, 100, 101, 102, 103, 104, 105, 106, 107, 108, 109, 110, 111, 112, 113, 114, 115, 116, 117, 118, 119, 120, 121, 122] by decide +kernel]
  unfold inL
  refine decide_eq_decide.mpr ?_
  simp only [List.mem_cons, List.not_mem_nil, or_false]
  omega
abbrev ownLx : List Str := ["word", "cells", "depth", "places", "marks", "gate", "kind", "place", "mark", "number", "row", "set", "if", "else", "top", "next", "go", "call", "back", "stop", "fault", "bell"]
theorem own_split : Txt.split ("word cells depth places marks gate kind place mark number row set if else top next go call back stop fault bell" : Str) (" " : Str) = ownLx := by decide +kernel
theorem own_split2 : Txt.split (("word cells depth places marks gate kind place mark number row" : Str) ++ (" set if else top next go call back stop fault bell" : Str)) (" " : Str) = ownLx := by decide +kernel
theorem own_ok : ∀ z ∈ ownLx, TOk 6 z := by
  have h : ownLx.all (fun z : Str => (Nat.ble z.length 6 && PyData.strOk z)) = true := by decide +kernel
  intro z hz
  have := List.all_eq_true.mp h z hz
  rw [Bool.and_eq_true] at this
  exact ⟨Nat.le_of_ble_eq_true this.1, this.2⟩
theorem inn_str (z : Str) (l : List Str) : (D.str z).inn (l.map D.str) = decide (z ∈ l) := by
  induction l with
  | nil => rfl
  | cons y l ih =>
    show (y == z || (D.str z).inn (l.map D.str)) = _
    rw [ih]
    by_cases e : y = z
    · subst e; simp
    · rw [show (y == z) = false from beq_eq_false_iff_ne.mpr e, Bool.false_or]
      exact decide_eq_decide.mpr (by simp [List.mem_cons, Ne.symm e])
theorem flat_strs (l : List Str) : (l.map D.str).all D.flat = true := by
  rw [List.all_map]; exact List.all_eq_true.mpr fun _ _ => rfl
/-- a name -/
def nm (z : Str) : Bool := decide (1 ≤ z.length) && (decide (z.length ≤ 8) && (z.cps.toList.all inL && !decide (z ∈ ownLx)))
theorem tok_one {c : Nat} (h : c < 1114112) : TOk 1 ⟨#[c]⟩ := ⟨Nat.le_refl _, by show (#[c] : Array Nat).all (· < 0x110000) = true; simp [h]⟩
theorem join_signs : ∀ cs : List Nat, TL.joinL [] (cs.map fun c => [c]) = cs
  | [] => rfl
  | [_] => rfl
  | a :: b :: r => by
    show [a] ++ ([] ++ TL.joinL [] ((b :: r).map fun c => [c])) = _
    rw [join_signs (b :: r)]; rfl
theorem join_ones (cs : List Nat) : Txt.join ("" : Str) (cs.map fun c => (⟨#[c]⟩ : Str)) = ⟨cs.toArray⟩ := by
  have h := SX.join_S [] (cs.map fun c => [c])
  rw [join_signs, List.map_map] at h
  exact h
theorem tok_list {n : Nat} {cs : List Nat} (h : ∀ c ∈ cs, c < 1114112) (l : cs.length ≤ n) : TOk n ⟨cs.toArray⟩ := by
  refine ⟨by show cs.toArray.size ≤ n; rw [List.size_toArray]; exact l, ?_⟩
  show cs.toArray.all (· < 0x110000) = true
  rw [List.all_toArray, List.all_eq_true]
  intro c hc
  exact decide_eq_true (h c hc)
/-- a stream was drawn from, nothing that stood was lost -/
def TkW (s : Addr) (μ μ' : Mu) : Prop := Strm μ' s ∧ ∀ b m, b ≠ s → μ b = some m → μ' b = some m
theorem TkW.refl {s : Addr} {μ : Mu} (h : Strm μ s) : TkW s μ μ := ⟨h, fun _ _ _ e => e⟩
theorem TkW.tk {s : Addr} {μ μ1 μ2 : Mu} (h : TkW s μ μ1) (g : Tk s μ1 μ2) : TkW s μ μ2 := ⟨g.1, fun b m hb e => by rw [g.2 b hb]; exact h.2 b m hb e⟩
theorem TkW.all {s : Addr} {μ μ1 μ2 : Mu} (h : TkW s μ μ1) (g : TkW s μ1 μ2) : TkW s μ μ2 := ⟨g.1, fun b m hb e => g.2 b m hb (h.2 b m hb e)⟩
theorem TkW.up {s p : Addr} {μ μ1 : Mu} {m : MO} (h : TkW s μ μ1) (hp : μ1 p = none) : TkW s μ (mup μ1 p m) := ⟨h.1.new hp, fun b n hb e => by
  have e1 := h.2 b n hb e
  rw [mup_ne (fun z => by rw [z, hp] at e1; cases e1)]; exact e1⟩
theorem TkW.set {s p : Addr} {μ μ1 : Mu} {m : MO} (h : TkW s μ μ1) (hp : μ p = none) (hs : p ≠ s) : TkW s μ (mup μ1 p m) := ⟨by
  obtain ⟨a, b, c, e⟩ := h.1
  exact ⟨a, b, c, by rw [mup_ne hs.symm]; exact e⟩, fun b n hb e => by
  rw [mup_ne (fun z => by rw [z, hp] at e; cases e)]; exact h.2 b n hb e⟩
theorem TkW.fix {s : Addr} {μ μ' : Mu} (h : TkW s μ μ') : ∃ μ2, Tk s μ μ2 ∧ Sub μ2 μ' := by
  obtain ⟨a, b, c, e⟩ := h.1
  refine ⟨fun b => if b = s then μ' s else μ b, ⟨⟨a, b, c, by show (if s = s then μ' s else μ s) = _; rw [if_pos rfl]; exact e⟩, fun x hx => if_neg hx⟩, fun x m hx => ?_⟩
  by_cases hs : x = s
  · subst hs; exact (if_pos rfl : (if x = x then μ' x else μ x) = μ' x) ▸ hx
  · exact h.2 x m hs ((if_neg hs : (if x = s then μ' s else μ x) = μ x) ▸ hx)
theorem tok_all {n : Nat} {z : Str} (h : TOk n z) : ∀ c ∈ z.cps.toList, c < 1114112 := fun c hc => by
  have h2 : z.cps.toList.all (· < 0x110000) = true := by rw [Array.all_toList]; exact h.2
  exact of_decide_eq_true (List.all_eq_true.mp h2 c hc)
theorem lt_a (c : Nat) : decide ((⟨#[c]⟩ : Str).cps.toList < ("a" : Str).cps.toList) = decide (c < 97) := by
  rw [show ("a" : Str).cps.toList = [97] by decide +kernel]
  refine decide_eq_decide.mpr ?_
  show [c] < [97] ↔ _
  simp [List.cons_lt_cons_iff]
theorem gt_z (c : Nat) : decide (("z" : Str).cps.toList < (⟨#[c]⟩ : Str).cps.toList) = decide (122 < c) := by
  rw [show ("z" : Str).cps.toList = [122] by decide +kernel]
  refine decide_eq_decide.mpr ?_
  show [122] < [c] ↔ _
  simp [List.cons_lt_cons_iff]

def isI : D → Bool
  | .int _ => true
  | _ => false
/-- a value of a kind that is told -/
def Thing (μ : Mu) (d : D) : Prop := (∃ n, d = .int n) ∨ isI d = false ∧ ∃ t, tyD μ d = some t ∧ (t = "bool" ∨ t = "NoneType" ∨ t = "str" ∨ t = "list" ∨ t = "tuple" ∨ t = "dict")
def wi : D → Int → Int → Bool
  | .int n, lo, hi => decide (lo ≤ n) && decide (n ≤ hi)
  | _, _, _ => false
theorem wi_no {d : D} {lo hi : Int} (h : isI d = false) : wi d lo hi = false := by cases d <;> first | rfl | cases h
theorem Thing.up {μ μ' : Mu} {d : D} (s : Sub μ μ') (h : Thing μ d) : Thing μ' d := by
  rcases h with h | ⟨hi, t, ht, h⟩
  · exact .inl h
  · refine .inr ⟨hi, t, ?_, h⟩
    cases d with
    | adr a =>
      cases q : μ a with
      | none => rw [show tyD μ (.adr a) = none by show (match μ a with | some (MO.lst _) => some "list" | some (MO.dk _) => some "dict" | _ => none) = none; rw [q]] at ht; cases ht
      | some m =>
        have e1 := s a m q
        have e : tyD μ' (.adr a) = tyD μ (.adr a) := by show (match μ' a with | some (MO.lst _) => some "list" | some (MO.dk _) => some "dict" | _ => none) = (match μ a with | some (MO.lst _) => some "list" | some (MO.dk _) => some "dict" | _ => none); rw [q, e1]
        rw [e]; exact ht
    | non => exact ht
    | bl _ => exact ht
    | int _ => exact ht
    | str _ => exact ht
    | ty _ => exact ht
    | tup _ => exact ht
    | lst _ => exact ht
    | obj _ _ _ => exact ht
    | scr _ => exact ht
theorem thing_int {μ : Mu} {n : Int} : Thing μ (.int n) := .inl ⟨n, rfl⟩
theorem thing_non {μ : Mu} : Thing μ .non := .inr ⟨rfl, _, rfl, .inr (.inl rfl)⟩
theorem thing_bl {μ : Mu} {b : Bool} : Thing μ (.bl b) := .inr ⟨rfl, _, rfl, .inl rfl⟩
theorem thing_str {μ : Mu} {x : Str} : Thing μ (.str x) := .inr ⟨rfl, _, rfl, .inr (.inr (.inl rfl))⟩
theorem thing_lst {μ : Mu} {ds : List D} : Thing μ (.lst ds) := .inr ⟨rfl, _, rfl, .inr (.inr (.inr (.inl rfl)))⟩
theorem thing_tup {μ : Mu} {ds : List D} : Thing μ (.tup ds) := .inr ⟨rfl, _, rfl, .inr (.inr (.inr (.inr (.inl rfl))))⟩
theorem thing_dk {μ : Mu} {a : Addr} {kvs : List (Key × D)} (h : μ a = some (.dk kvs)) : Thing μ (.adr a) := .inr ⟨rfl, _, tyD_dk h, .inr (.inr (.inr (.inr (.inr rfl))))⟩
/-! ### is_whole -/
def spis_whole : Sp2 := fun ds μ Q _ => ∃ d, ds = [d] ∧ Thing μ d ∧ Q (.bl (isI d)) μ
theorem Dis_whole (T : Tt K mg cc) : Df P w K mg base "is_whole" 1 ["thing"] (spis_whole) := by
  refine T.xis_whole.ok scis_whole (by rintro ds μ Q E ⟨d, rfl, h, q⟩ <;> rfl) (fun f cdv A outer s H E hr => ⟨_, _, (b_one (s_ret (e_and (e_isi (by rfl) T.b_isinstance (a_cons (e_pv 0 (pv 0)) (a_cons (e_bty (n := "int") (by rfl) T.b_int (by decide +kernel)) a_nil))) (e_one (e_not (e_isi (by rfl) T.b_isinstance (a_cons (e_pv 0 (pv 0)) (a_cons (e_bty (n := "bool") (by rfl) T.b_bool (by decide +kernel)) a_nil)))))))), ?_⟩)
  rintro ds μ Q E ⟨d, rfl, h, q⟩
  rcases h with ⟨n, rfl⟩ | ⟨hi, t, ht, h⟩
  · walk_at "y"
    exact RtC.same q
  · rw [hi] at q
    rcases h with rfl | rfl | rfl | rfl | rfl | rfl
    all_goals
      walk_at "y"
      exact RtC.same q
/-! ### is_within -/
def spis_within : Sp2 := fun ds μ Q _ => ∃ d lo hi, ds = [d, .int lo, .int hi] ∧ Thing μ d ∧ Q (.bl (wi d lo hi)) μ
theorem Dis_within (T : Tt K mg cc) : Df P w K mg base "is_within" 2 ["thing", "low", "high"] (spis_within) := by
  have Dis_whole := Dis_whole (P := P) (w := w) (base := base) T
  refine T.xis_within.ok scis_within (by rintro ds μ Q E ⟨d, lo, hi, rfl, h, q⟩ <;> rfl) (fun f cdv A outer s H E hr => ⟨_, _, (b_one (s_ret (e_and (e_call Dis_whole hr (by rfl) (a_cons (e_pv 0 (pv 0)) a_nil)) (e_one (e_chain op_le op_le rr_le rr_le (e_pv 1 (pv 1)) (e_pv 0 (pv 0)) (e_pv 2 (pv 2))))))), ?_⟩)
  rintro ds μ Q E ⟨d, lo, hi, rfl, h, q⟩
  walk_at "y"
  refine ⟨d, rfl, h, ?_⟩
  rcases h with ⟨n, rfl⟩ | ⟨hi, t, ht, h⟩
  · rw [show isI (.int n) = true from rfl]
    walk_at "y"
    refine br_dec (fun h1 => ?_) (fun h1 => ?_)
    · walk_at "y"
      rw [show wi (.int n) lo hi = decide (n ≤ hi) by show (decide (lo ≤ n) && _) = _; rw [decide_eq_true h1, Bool.true_and]] at q
      exact RtC.same q
    · walk_at "y"
      rw [show wi (.int n) lo hi = false by show (decide (lo ≤ n) && _) = _; rw [decide_eq_false h1, Bool.false_and]] at q
      exact RtC.same q
  · rw [wi_no hi] at q
    rw [hi]
    walk_at "y"
    exact RtC.same q

/-- a place or a mark: whether told by a field, its number; a source: its sort, its number -/
abbrev Sl := Bool × Int
abbrev Sr := Fin 3 × Int
def slK : Bool → Str
  | true => "by"
  | false => "is"
def srK : Fin 3 → Str
  | 0 => "in"
  | 1 => "number"
  | 2 => "field"
abbrev slD (s : Sl) : D := .tup [.str (slK s.1), .int s.2]
abbrev srD (a : Sr) : D := .tup [.str (srK a.1), .int a.2]
def slMost : Bool → Int
  | true => 2
  | false => 3
def srMost : Fin 3 → Int
  | 0 => 7
  | 1 => 16777215
  | 2 => 2
def slOk (s : Sl) : Prop := 0 ≤ s.2 ∧ s.2 ≤ slMost s.1
def srOk (a : Sr) : Prop := 0 ≤ a.2 ∧ a.2 ≤ srMost a.1
def toOk (n : Int) : Prop := 0 ≤ n ∧ n ≤ 7
abbrev ops9 : List Str := ["+", "-", "&", "|", "^", "<<", ">>", "<", "="]
theorem slOk.le {s : Sl} (h : slOk s) : 0 ≤ s.2 ∧ s.2 ≤ 3 := by
  obtain ⟨b, n⟩ := s
  obtain ⟨h1, h2⟩ := h
  cases b
  · exact ⟨h1, h2⟩
  · exact ⟨h1, Int.le_trans h2 (show (2 : Int) ≤ 3 by decide)⟩
theorem srOk.le {a : Sr} (h : srOk a) : 0 ≤ a.2 ∧ a.2 ≤ 16777215 := by
  obtain ⟨k, n⟩ := a
  obtain ⟨h1, h2⟩ := h
  match k, h2 with
  | 0, h2 => exact ⟨h1, Int.le_trans h2 (show (7 : Int) ≤ 16777215 by decide)⟩
  | 1, h2 => exact ⟨h1, h2⟩
  | 2, h2 => exact ⟨h1, Int.le_trans h2 (show (2 : Int) ≤ 16777215 by decide)⟩
inductive St where
  | get (to : Int) (s : Sl) | ask (to : Int) (s : Sl) | cell (to : Int) (a : Sr) | two (to : Int) (o : Str) (a b : Sr) | put (s : Sl) (a : Sr) | tell (s : Sl) (a : Sr) | store (a b : Sr)
def stL : St → List D
  | .get to s => [.str "get", .int to, slD s]
  | .ask to s => [.str "ask", .int to, slD s]
  | .cell to a => [.str "cell", .int to, srD a]
  | .two to o a b => [.str "two", .int to, .str o, srD a, srD b]
  | .put s a => [.str "put", slD s, srD a]
  | .tell s a => [.str "tell", slD s, srD a]
  | .store a b => [.str "store", srD a, srD b]
def stD (s : St) : D := .tup (stL s)
def stO (cc : Nat → Addr) : St → D
  | .get to s => .obj (cc 0) ["to", "sel"] [.int to, slD s]
  | .ask to s => .obj (cc 0) ["to", "sel"] [.int to, slD s]
  | .cell to a => .obj (cc 0) ["to", "source"] [.int to, srD a]
  | .two to o a b => .obj (cc 0) ["to", "op", "one", "other"] [.int to, .str o, srD a, srD b]
  | .put s a => .obj (cc 0) ["sel", "source"] [slD s, srD a]
  | .tell s a => .obj (cc 0) ["sel", "source"] [slD s, srD a]
  | .store a b => .obj (cc 0) ["at", "source"] [srD a, srD b]
def stOk : St → Prop
  | .get to s => toOk to ∧ slOk s
  | .ask to s => toOk to ∧ slOk s
  | .cell to a => toOk to ∧ srOk a
  | .two to o a b => toOk to ∧ o ∈ ops9 ∧ srOk a ∧ srOk b
  | .put s a => slOk s ∧ srOk a
  | .tell s a => slOk s ∧ srOk a
  | .store a b => srOk a ∧ srOk b
/-- what is read, what is changed -/
abbrev rT (n : Int) : Str := (Str.ofString "r") ++ tx n
def srR : Sr → List Str
  | (0, n) => [rT n]
  | _ => []
def wayT : Str := "way"
def stR : St → List Str
  | .get _ _ => [wayT]
  | .ask _ _ => [wayT]
  | .cell _ a => srR a ++ [wayT]
  | .two _ _ a b => srR a ++ srR b
  | .put _ a => srR a ++ [wayT]
  | .tell _ a => srR a ++ [wayT]
  | .store a b => srR a ++ srR b ++ [wayT]
def stW : St → List Str
  | .get to _ => [rT to, wayT]
  | .ask to _ => [rT to, wayT]
  | .cell to _ => [rT to, wayT]
  | .two to _ _ _ => [rT to]
  | .put _ _ => [wayT]
  | .tell _ _ => [wayT]
  | .store _ _ => [wayT]
theorem srR0 {n : Int} : srR (0, n) = [rT n] := rfl
theorem srR1 {n : Int} : srR (1, n) = [] := rfl
theorem srR2 {n : Int} : srR (2, n) = [] := rfl
theorem ok_rT {n : Int} (h : 0 ≤ n) : PyData.strOk (rT n) = true := by rw [ok_app, tx_ok h]; decide +kernel
theorem ok_slK : ∀ b, PyData.strOk (slK b) = true := by decide +kernel
theorem ok_srK : ∀ k, PyData.strOk (srK k) = true := by decide +kernel
theorem ok_ops {o : Str} (h : o ∈ ops9) : PyData.strOk o = true := List.all_eq_true.mp (show ops9.all (fun x => PyData.strOk x) = true by decide +kernel) o h
theorem len_ops {o : Str} (h : o ∈ ops9) : o.length ≤ 2 := of_decide_eq_true (List.all_eq_true.mp (show ops9.all (fun x : Str => decide (x.length ≤ 2)) = true by decide +kernel) o h)
theorem sl_shp {n : Nat} (s : Sl) : D.shp (n + 1) (slD s) = true := by
  show D.shp (n + 1) (D.tup _) = true
  rw [shp_tup, shpA_cons, shpA_cons, shpA_nil, shp_str, shp_int, ok_slK]; rfl
theorem sr_shp {n : Nat} (a : Sr) : D.shp (n + 1) (srD a) = true := by
  show D.shp (n + 1) (D.tup _) = true
  rw [shp_tup, shpA_cons, shpA_cons, shpA_nil, shp_str, shp_int, ok_srK]; rfl
theorem stL_shp {n : Nat} {s : St} (h : stOk s) : D.shpA (n + 1) (stL s) = true := by
  cases s with
  | two to o a b =>
    show D.shpA (n + 1) [.str "two", .int to, .str o, srD a, srD b] = true
    rw [shpA_cons, shpA_cons, shpA_cons, shpA_cons, shpA_cons, shpA_nil, shp_str, shp_int, shp_str, sr_shp, sr_shp, ok_ops h.2.1]; decide +kernel
  | get to s =>
    show D.shpA (n + 1) [.str "get", .int to, slD s] = true
    rw [shpA_cons, shpA_cons, shpA_cons, shpA_nil, shp_str, shp_int, sl_shp]; decide +kernel
  | ask to s =>
    show D.shpA (n + 1) [.str "ask", .int to, slD s] = true
    rw [shpA_cons, shpA_cons, shpA_cons, shpA_nil, shp_str, shp_int, sl_shp]; decide +kernel
  | cell to a =>
    show D.shpA (n + 1) [.str "cell", .int to, srD a] = true
    rw [shpA_cons, shpA_cons, shpA_cons, shpA_nil, shp_str, shp_int, sr_shp]; decide +kernel
  | put s a =>
    show D.shpA (n + 1) [.str "put", slD s, srD a] = true
    rw [shpA_cons, shpA_cons, shpA_cons, shpA_nil, shp_str, sl_shp, sr_shp]; decide +kernel
  | tell s a =>
    show D.shpA (n + 1) [.str "tell", slD s, srD a] = true
    rw [shpA_cons, shpA_cons, shpA_cons, shpA_nil, shp_str, sl_shp, sr_shp]; decide +kernel
  | store a b =>
    show D.shpA (n + 1) [.str "store", srD a, srD b] = true
    rw [shpA_cons, shpA_cons, shpA_cons, shpA_nil, shp_str, sr_shp, sr_shp]; decide +kernel
theorem stD_shp {s : St} (h : stOk s) : D.shp 64 (stD s) = true := by
  show D.shp (63 + 1) (D.tup _) = true
  rw [shp_tup]; exact stL_shp (n := 62) h
theorem st_emp {s : St} (h : stOk s) (μ : Mu) : EqR μ (stD s) (.tup []) false := .inr ⟨stD_shp h, rfl, by cases s <;> rfl⟩
def slW : Sl → Str → Str
  | (true, n), _ => (Str.ofString "f") ++ tx n
  | (false, n), l => l ++ tx n
def srW : Sr → Str
  | (0, n) => (Str.ofString "r") ++ tx n
  | (1, n) => tx n
  | (2, n) => (Str.ofString "f") ++ tx n
/-- a step as it is written -/
def stT : St → Str
  | .get to s => (((Str.ofString "get r") ++ tx to) ++ (Str.ofString " ")) ++ slW s (Str.ofString "p")
  | .ask to s => (((Str.ofString "ask r") ++ tx to) ++ (Str.ofString " ")) ++ slW s (Str.ofString "m")
  | .cell to a => (((Str.ofString "cell r") ++ tx to) ++ (Str.ofString " ")) ++ srW a
  | .two to o a b => ((((((Str.ofString "two r") ++ tx to) ++ (Str.ofString " ")) ++ o) ++ (Str.ofString " ")) ++ srW a ++ (Str.ofString " ")) ++ srW b
  | .put s a => (((Str.ofString "put ") ++ slW s (Str.ofString "p")) ++ (Str.ofString " ")) ++ srW a
  | .tell s a => (((Str.ofString "tell ") ++ slW s (Str.ofString "m")) ++ (Str.ofString " ")) ++ srW a
  | .store a b => (((Str.ofString "store ") ++ srW a) ++ (Str.ofString " ")) ++ srW b
theorem slW_len {s : Sl} {l : Str} (h : slOk s) (hl : l.length ≤ 1) : (slW s l).length ≤ 11 := by
  have h2 := tx_len h.le.1 (Int.lt_of_le_of_lt h.le.2 (by decide))
  obtain ⟨b, n⟩ := s
  dsimp only at h2
  cases b
  · show (l ++ tx n).length ≤ 11
    rw [len_app]; omega
  · show (Str.ofString "f" ++ tx n).length ≤ 11
    rw [len_app, show (Str.ofString "f").length = 1 from rfl]; omega
theorem srW_len {a : Sr} (h : srOk a) : (srW a).length ≤ 11 := by
  have h2 := tx_len h.le.1 (Int.lt_of_le_of_lt h.le.2 (by decide))
  obtain ⟨k, n⟩ := a
  dsimp only at h2
  obtain rfl | rfl | rfl : k = 0 ∨ k = 1 ∨ k = 2 := by omega
  · show (Str.ofString "r" ++ tx n).length ≤ 11
    rw [len_app, show (Str.ofString "r").length = 1 from rfl]; omega
  · show (tx n).length ≤ 11
    omega
  · show (Str.ofString "f" ++ tx n).length ≤ 11
    rw [len_app, show (Str.ofString "f").length = 1 from rfl]; omega
theorem lens2 : (Str.ofString " ").length = 1 ∧ (Str.ofString "get r").length = 5 ∧ (Str.ofString "ask r").length = 5 ∧ (Str.ofString "cell r").length = 6 ∧ (Str.ofString "two r").length = 5 ∧ (Str.ofString "put ").length = 4 ∧ (Str.ofString "tell ").length = 5 ∧ (Str.ofString "store ").length = 6 := ⟨rfl, rfl, rfl, rfl, rfl, rfl, rfl, rfl⟩
theorem lens : (Str.ofString "r").length = 1 ∧ (Str.ofString "f").length = 1 := ⟨rfl, rfl⟩
/-- a place or a mark: whether told by a field, its number -/
abbrev Ll := Bool × Int
abbrev llD (s : Ll) : D := .tup [.str (if s.1 then Str.ofString "by" else Str.ofString "is"), .int s.2]
abbrev lo9 : List Str := [Str.ofString "+", Str.ofString "-", Str.ofString "&", Str.ofString "|", Str.ofString "^", Str.ofString "<<", Str.ofString ">>", Str.ofString "<", Str.ofString "="]
abbrev Op := {x : Str // x ∈ lo9}
inductive Ex where
  | num (n : Int) | fld (n : Int) | plc (s : Ll) | mrk (s : Ll) | cel (e : Ex) | op (o : Op) (a b : Ex)
def exD : Ex → D
  | .num n => .tup [.str "number", .int n]
  | .fld n => .tup [.str "field", .int n]
  | .plc s => .tup [.str "place", llD s]
  | .mrk s => .tup [.str "mark", llD s]
  | .cel e => .tup [.str "cell", exD e]
  | .op o a b => .tup [.str o.1, exD a, exD b]
theorem exD_num {n : Int} : exD (.num n) = .tup [.str "number", .int n] := rfl
theorem exD_fld {n : Int} : exD (.fld n) = .tup [.str "field", .int n] := rfl
theorem exD_plc {s : Ll} : exD (.plc s) = .tup [.str "place", llD s] := rfl
theorem exD_mrk {s : Ll} : exD (.mrk s) = .tup [.str "mark", llD s] := rfl
theorem exD_cel {e : Ex} : exD (.cel e) = .tup [.str "cell", exD e] := rfl
theorem exD_op {o : Op} {a b : Ex} : exD (.op o a b) = .tup [.str o.1, exD a, exD b] := rfl
def dep : Ex → Nat
  | .cel e => dep e + 1
  | .op _ a b => max (dep a) (dep b) + 1
  | _ => 0
def nds : Ex → Nat
  | .cel e => nds e + 1
  | .op _ a b => nds a + nds b + 1
  | _ => 1
theorem nds_dep : ∀ e : Ex, nds e + 1 ≤ 2 ^ (dep e + 1)
  | .num _ => Nat.le_refl _
  | .fld _ => Nat.le_refl _
  | .plc _ => Nat.le_refl _
  | .mrk _ => Nat.le_refl _
  | .cel e => by
    have h := nds_dep e
    show nds e + 1 + 1 ≤ 2 ^ (dep e + 1 + 1)
    rw [Nat.pow_succ]; omega
  | .op _ a b => by
    have h1 := nds_dep a
    have h2 := nds_dep b
    have h3 : 2 ^ (dep a + 1) ≤ 2 ^ (max (dep a) (dep b) + 1) := Nat.pow_le_pow_right (by decide) (by omega)
    have h4 : 2 ^ (dep b + 1) ≤ 2 ^ (max (dep a) (dep b) + 1) := Nat.pow_le_pow_right (by decide) (by omega)
    show nds a + nds b + 1 + 1 ≤ 2 ^ (max (dep a) (dep b) + 1 + 1)
    rw [Nat.pow_succ (m := max (dep a) (dep b) + 1)]; omega
theorem nds15 {e : Ex} (h : dep e ≤ 3) : nds e ≤ 15 := by
  have h1 := nds_dep e
  have h2 : 2 ^ (dep e + 1) ≤ 2 ^ 4 := Nat.pow_le_pow_right (by decide) (by omega)
  omega
/-- what a part is, and the parts behind it -/
def prt : Ex → List D → D × List D
  | .num n, ps => (exD (.num n), ps)
  | .fld n, ps => (exD (.fld n), ps)
  | .plc s, ps => (.int (ps.length : Nat), ps ++ [.tup [.str "get", llD s]])
  | .mrk s, ps => (.int (ps.length : Nat), ps ++ [.tup [.str "ask", llD s]])
  | .cel e, ps => (.int ((prt e ps).2.length : Nat), (prt e ps).2 ++ [.tup [.str "cell", (prt e ps).1]])
  | .op o a b, ps => (.int ((prt b (prt a ps).2).2.length : Nat), (prt b (prt a ps).2).2 ++ [.tup [.str o.1, (prt a ps).1, (prt b (prt a ps).2).1]])
theorem prt_len : ∀ (e : Ex) (ps : List D), (prt e ps).2.length ≤ ps.length + nds e
  | .num _, ps => Nat.le_succ _
  | .fld _, ps => Nat.le_succ _
  | .plc _, ps => by show (ps ++ [_]).length ≤ _; rw [List.length_append]; exact Nat.le_refl _
  | .mrk _, ps => by show (ps ++ [_]).length ≤ _; rw [List.length_append]; exact Nat.le_refl _
  | .cel e, ps => by
    have h := prt_len e ps
    show ((prt e ps).2 ++ [_]).length ≤ ps.length + (nds e + 1)
    rw [List.length_append, List.length_singleton]; omega
  | .op o a b, ps => by
    have h := prt_len a ps
    have h2 := prt_len b (prt a ps).2
    show ((prt b (prt a ps).2).2 ++ [_]).length ≤ ps.length + (nds a + nds b + 1)
    rw [List.length_append, List.length_singleton]; omega
theorem op_no : ∀ o : Op, ¬ o.1 = Str.ofString "number" ∧ ¬ o.1 = Str.ofString "field" ∧ ¬ o.1 = Str.ofString "place" ∧ ¬ o.1 = Str.ofString "mark" ∧ ¬ o.1 = Str.ofString "cell" ∧ ¬ o.1 = Str.ofString "get" ∧ ¬ o.1 = Str.ofString "ask" := fun o => by
  have h : lo9.all (fun x => !decide (x = Str.ofString "number") && (!decide (x = Str.ofString "field") && (!decide (x = Str.ofString "place") && (!decide (x = Str.ofString "mark") && (!decide (x = Str.ofString "cell") && (!decide (x = Str.ofString "get") && !decide (x = Str.ofString "ask"))))))) = true := by decide +kernel
  have := List.all_eq_true.mp h o.1 o.2
  simp only [Bool.and_eq_true, Bool.not_eq_true', decide_eq_false_iff_not] at this
  exact this
theorem mup_self {μ : Mu} {p : Addr} {m : MO} (h : μ p = some m) : mup μ p m = μ := by
  funext b
  unfold mup
  by_cases e : b = p
  · rw [if_pos e, e, h]
  · rw [if_neg e]
theorem len_snoc {ps : List D} {x : D} : ((ps ++ [x]).length : Int) - 1 = (ps.length : Nat) := by
  rw [List.length_append, List.length_singleton]; omega
/-- sets -/
inductive Lt where
  | cel (a b : Ex) | put (m : Bool) (s : Ll) (e : Ex)
def ltD : Lt → D
  | .cel a b => .tup [.str "cell", exD a, exD b]
  | .put m s e => .tup [.str (if m then Str.ofString "mark" else Str.ofString "place"), llD s, exD e]
def stDep : Lt → Nat
  | .cel a b => max (dep a) (dep b)
  | .put _ _ e => dep e
def stp (X : List D × List D) : Lt → List D × List D
  | .cel a b => ((prt b (prt a X.1).2).2, X.2 ++ [.tup [(prt a X.1).1, (prt b (prt a X.1).2).1]])
  | .put _ _ e => ((prt e X.1).2, X.2 ++ [.tup [(prt e X.1).1]])
abbrev rts (ss : List Lt) : List D × List D := ss.foldl stp ([], [])
theorem stD_cel {a b : Ex} : ltD (.cel a b) = .tup [.str "cell", exD a, exD b] := rfl
theorem stD_put {m : Bool} {s : Ll} {e : Ex} : ltD (.put m s e) = .tup [.str (if m then Str.ofString "mark" else Str.ofString "place"), llD s, exD e] := rfl
/-- on what a set rests -/
def restL : Lt → List D
  | .cel a b => [exD a, exD b]
  | .put _ _ e => [exD e]
theorem rts_snoc (ss : List Lt) (s : Lt) : rts (ss ++ [s]) = stp (rts ss) s := by
  show (ss ++ [s]).foldl stp ([], []) = _
  rw [List.foldl_append]; rfl
theorem stp_len (X : List D × List D) (s : Lt) (h : stDep s ≤ 3) : (stp X s).1.length ≤ X.1.length + 30 ∧ (stp X s).2.length = X.2.length + 1 := by
  cases s with
  | cel a b =>
    have h' : max (dep a) (dep b) ≤ 3 := h
    have h1 := nds15 (e := a) (by omega)
    have h2 := nds15 (e := b) (by omega)
    have h3 := prt_len a X.1
    have h4 := prt_len b (prt a X.1).2
    refine ⟨?_, ?_⟩
    · show (prt b (prt a X.1).2).2.length ≤ _; omega
    · show (X.2 ++ [_]).length = _; rw [List.length_append]; rfl
  | put m s e =>
    have h1 := nds15 (e := e) h
    have h3 := prt_len e X.1
    refine ⟨?_, ?_⟩
    · show (prt e X.1).2.length ≤ _; omega
    · show (X.2 ++ [_]).length = _; rw [List.length_append]; rfl
theorem rts_len (ss : List Lt) : ∀ X : List D × List D, (∀ s ∈ ss, stDep s ≤ 3) → (ss.foldl stp X).1.length ≤ X.1.length + 30 * ss.length ∧ (ss.foldl stp X).2.length = X.2.length + ss.length := by
  induction ss with
  | nil => intro X _; exact ⟨by simp, rfl⟩
  | cons s ss ih =>
    intro X h
    have h1 := stp_len X s (h s List.mem_cons_self)
    have h2 := ih (stp X s) fun x hx => h x (List.mem_cons_of_mem _ hx)
    rw [List.foldl_cons, List.length_cons]
    omega
/-- shapes -/
theorem lok_ops : ∀ o : Op, PyData.strOk o.1 = true := fun o => List.all_eq_true.mp (show lo9.all (fun x => PyData.strOk x) = true by decide +kernel) o.1 o.2
theorem shp_sl {n : Nat} {s : Ll} (h : 1 ≤ n) : D.shp n (llD s) = true := by
  obtain ⟨k, rfl⟩ : ∃ k, n = k + 1 := ⟨n - 1, by omega⟩
  rw [shp_tup, shpA_cons, shpA_cons, shp_str, shp_int, shpA_nil]
  cases s.1 <;> decide +kernel
theorem shp_ex : ∀ (e : Ex) (n : Nat), dep e + 2 ≤ n → D.shp n (exD e) = true
  | .num k, n, h => by
    obtain ⟨k, rfl⟩ : ∃ k, n = k + 1 := ⟨n - 1, by omega⟩
    rw [exD_num, shp_tup, shpA_cons, shpA_cons, shp_str, shp_int, shpA_nil]; decide +kernel
  | .fld k, n, h => by
    obtain ⟨k, rfl⟩ : ∃ k, n = k + 1 := ⟨n - 1, by omega⟩
    rw [exD_fld, shp_tup, shpA_cons, shpA_cons, shp_str, shp_int, shpA_nil]; decide +kernel
  | .plc s, n, h => by
    have h' : 0 + 2 ≤ n := h
    obtain ⟨k, rfl⟩ : ∃ k, n = k + 1 := ⟨n - 1, by omega⟩
    rw [exD_plc, shp_tup, shpA_cons, shpA_cons, shp_str, shp_sl (by omega), shpA_nil]; decide +kernel
  | .mrk s, n, h => by
    have h' : 0 + 2 ≤ n := h
    obtain ⟨k, rfl⟩ : ∃ k, n = k + 1 := ⟨n - 1, by omega⟩
    rw [exD_mrk, shp_tup, shpA_cons, shpA_cons, shp_str, shp_sl (by omega), shpA_nil]; decide +kernel
  | .cel e, n, h => by
    have h' : dep e + 1 + 2 ≤ n := h
    obtain ⟨k, rfl⟩ : ∃ k, n = k + 1 := ⟨n - 1, by omega⟩
    rw [exD_cel, shp_tup, shpA_cons, shpA_cons, shp_str, shp_ex e k (by omega), shpA_nil]; decide +kernel
  | .op o a b, n, h => by
    have h' : max (dep a) (dep b) + 1 + 2 ≤ n := h
    obtain ⟨k, rfl⟩ : ∃ k, n = k + 1 := ⟨n - 1, by omega⟩
    rw [exD_op, shp_tup, shpA_cons, shpA_cons, shpA_cons, shp_str, shp_ex a k (by omega), shp_ex b k (by omega), shpA_nil, lok_ops o]; rfl
theorem shp_st (s : Lt) (h : stDep s ≤ 3) : D.shp 20 (ltD s) = true := by
  cases s with
  | cel a b =>
    have h' : max (dep a) (dep b) ≤ 3 := h
    rw [stD_cel, shp_tup, shpA_cons, shpA_cons, shpA_cons, shp_str, shp_ex a _ (by omega), shp_ex b _ (by omega), shpA_nil]; decide +kernel
  | put m s e =>
    have h' : dep e ≤ 3 := h
    rw [stD_put, shp_tup, shpA_cons, shpA_cons, shpA_cons, shp_str, shp_ex e _ (by omega), shp_sl (by omega), shpA_nil]
    cases m <;> decide +kernel
/-- what stands in a row -/
def ItOk (t : D) : Prop := (∃ n, t = .int n) ∨ (∃ x, t = .str x) ∨ ∃ ds, t = .tup ds
def RowOk (d : D) : Prop := ∃ ts, d = .tup ts ∧ (∀ t ∈ ts, ItOk t) ∧ D.shp 10 d = true
def RefOk (t : D) : Prop := ItOk t ∧ D.shp 9 t = true
theorem row1 {x : Str} {r : D} (hx : PyData.strOk x = true) (h : RefOk r) : RowOk (.tup [.str x, r]) := by
  refine ⟨_, rfl, fun t ht => ?_, ?_⟩
  · simp only [List.mem_cons, List.not_mem_nil, or_false] at ht
    rcases ht with rfl | rfl
    · exact .inr (.inl ⟨_, rfl⟩)
    · exact h.1
  · rw [shp_tup, shpA_cons, shpA_cons, shp_str, hx, h.2, shpA_nil]; rfl
theorem row2 {x : Str} {r r2 : D} (hx : PyData.strOk x = true) (h : RefOk r) (h2 : RefOk r2) : RowOk (.tup [.str x, r, r2]) := by
  refine ⟨_, rfl, fun t ht => ?_, ?_⟩
  · simp only [List.mem_cons, List.not_mem_nil, or_false] at ht
    rcases ht with rfl | rfl | rfl
    · exact .inr (.inl ⟨_, rfl⟩)
    · exact h.1
    · exact h2.1
  · rw [shp_tup, shpA_cons, shpA_cons, shpA_cons, shp_str, hx, h.2, h2.2, shpA_nil]; rfl
theorem ref_int (n : Int) : RefOk (.int n) := ⟨.inl ⟨n, rfl⟩, shp_int⟩
theorem ref_sl (s : Ll) : RefOk (llD s) := ⟨.inr (.inr ⟨_, rfl⟩), shp_sl (by decide)⟩
theorem snoc_ok {ps : List D} {d : D} (h : ∀ x ∈ ps, RowOk x) (g : RowOk d) : ∀ x ∈ ps ++ [d], RowOk x := fun x hx => by
  rcases List.mem_append.mp hx with hx | hx
  · exact h x hx
  · rw [List.mem_singleton.mp hx]; exact g
theorem prt_ok : ∀ (e : Ex) (ps : List D), (∀ d ∈ ps, RowOk d) → RefOk (prt e ps).1 ∧ ∀ d ∈ (prt e ps).2, RowOk d
  | .num n, ps, h => ⟨⟨.inr (.inr ⟨_, rfl⟩), shp_ex (.num n) 9 (show 0 + 2 ≤ 9 by decide)⟩, h⟩
  | .fld n, ps, h => ⟨⟨.inr (.inr ⟨_, rfl⟩), shp_ex (.fld n) 9 (show 0 + 2 ≤ 9 by decide)⟩, h⟩
  | .plc s, ps, h => ⟨ref_int _, snoc_ok h (row1 (by decide +kernel) (ref_sl s))⟩
  | .mrk s, ps, h => ⟨ref_int _, snoc_ok h (row1 (by decide +kernel) (ref_sl s))⟩
  | .cel e, ps, h => ⟨ref_int _, snoc_ok (prt_ok e ps h).2 (row1 (by decide +kernel) (prt_ok e ps h).1)⟩
  | .op o a b, ps, h => ⟨ref_int _, snoc_ok (prt_ok b _ (prt_ok a ps h).2).2 (row2 (lok_ops o) (prt_ok a ps h).1 (prt_ok b _ (prt_ok a ps h).2).1)⟩
theorem root1 {r : D} (h : RefOk r) : RowOk (.tup [r]) := by
  refine ⟨_, rfl, fun t ht => ?_, ?_⟩
  · rw [List.mem_singleton.mp ht]; exact h.1
  · rw [shp_tup, shpA_cons, h.2, shpA_nil]; rfl
theorem root2 {r r2 : D} (h : RefOk r) (h2 : RefOk r2) : RowOk (.tup [r, r2]) := by
  refine ⟨_, rfl, fun t ht => ?_, ?_⟩
  · simp only [List.mem_cons, List.not_mem_nil, or_false] at ht
    rcases ht with rfl | rfl
    · exact h.1
    · exact h2.1
  · rw [shp_tup, shpA_cons, shpA_cons, h.2, h2.2, shpA_nil]; rfl
theorem rts_ok (ss : List Lt) : ∀ X : List D × List D, (∀ d ∈ X.1, RowOk d) → (∀ d ∈ X.2, RowOk d) → (∀ d ∈ (ss.foldl stp X).1, RowOk d) ∧ ∀ d ∈ (ss.foldl stp X).2, RowOk d := by
  induction ss with
  | nil => intro X h g; exact ⟨h, g⟩
  | cons s ss ih =>
    intro X h g
    rw [List.foldl_cons]
    cases s with
    | cel a b =>
      have h1 := prt_ok a X.1 h
      have h2 := prt_ok b _ h1.2
      exact ih _ h2.2 (snoc_ok g (root2 h1.1 h2.1))
    | put m s e =>
      have h1 := prt_ok e X.1 h
      exact ih _ h1.2 (snoc_ok g (root1 h1.1))
theorem rows_shp {L : List D} (h : ∀ d ∈ L, RowOk d) : D.shp 64 (.lst L) = true := shpA_all (n := 63) fun d hd => by
  obtain ⟨_, _, _, hs⟩ := h d hd
  exact shp_le hs (by decide)

/-- parts as they are told: what they rest on -/
inductive Rf where
  | k (c : Sr) | n (i : Nat)
inductive Rw where
  | get (s : Sl) | ask (s : Sl) | cell (r : Rf) | two (o : Op) (a b : Rf)
def rfD : Rf → D
  | .k c => srD c
  | .n i => .int (i : Nat)
def rwD : Rw → D
  | .get s => .tup [.str "get", slD s]
  | .ask s => .tup [.str "ask", slD s]
  | .cell r => .tup [.str "cell", rfD r]
  | .two o a b => .tup [.str o.1, rfD a, rfD b]
theorem llD_sl (s : Sl) : llD s = slD s := by
  obtain ⟨b, n⟩ := s
  cases b <;> rfl
/-- how many parts -/
def cnt : Ex → Nat
  | .num _ => 0 | .fld _ => 0 | .plc _ => 1 | .mrk _ => 1
  | .cel e => cnt e + 1
  | .op _ a b => cnt a + cnt b + 1
def isC : Ex → Bool
  | .num _ => true | .fld _ => true | _ => false
def kOf : Ex → Sr
  | .num n => (1, n) | .fld n => (2, n) | _ => (0, 0)
def rfE (e : Ex) (b : Nat) : Rf := if isC e then .k (kOf e) else .n (b + cnt e - 1)
def rwE : Ex → Nat → List Rw
  | .num _, _ => [] | .fld _, _ => []
  | .plc s, _ => [.get s] | .mrk s, _ => [.ask s]
  | .cel e, b => rwE e b ++ [.cell (rfE e b)]
  | .op o x y, b => rwE x b ++ (rwE y (b + cnt x) ++ [.two o (rfE x b) (rfE y (b + cnt x))])
theorem rwE_len : ∀ (e : Ex) (b : Nat), (rwE e b).length = cnt e
  | .num _, _ => rfl | .fld _, _ => rfl | .plc _, _ => rfl | .mrk _, _ => rfl
  | .cel e, b => by show (rwE e b ++ [_]).length = cnt e + 1; rw [List.length_append, rwE_len e b]; rfl
  | .op _ x y, b => by
    show (rwE x b ++ (rwE y (b + cnt x) ++ [_])).length = cnt x + cnt y + 1
    rw [List.length_append, List.length_append, rwE_len x b, rwE_len y _, List.length_singleton]; omega
theorem cnt_pos : ∀ {e : Ex}, isC e = false → 0 < cnt e
  | .num _, h => by cases h
  | .fld _, h => by cases h
  | .plc _, _ => Nat.one_pos
  | .mrk _, _ => Nat.one_pos
  | .cel _, _ => Nat.succ_pos _
  | .op _ _ _, _ => Nat.succ_pos _
theorem cnt_c : ∀ {e : Ex}, isC e = true → cnt e = 0
  | .num _, _ => rfl
  | .fld _, _ => rfl
  | .plc _, h => by cases h
  | .mrk _, h => by cases h
  | .cel _, h => by cases h
  | .op _ _ _, h => by cases h
theorem prt_rw : ∀ (e : Ex) (ps : List D), prt e ps = (rfD (rfE e ps.length), ps ++ (rwE e ps.length).map rwD)
  | .num n, ps => by show (exD (.num n), ps) = _; rw [show rwE (.num n) ps.length = [] from rfl, List.map_nil, List.append_nil]; rfl
  | .fld n, ps => by show (exD (.fld n), ps) = _; rw [show rwE (.fld n) ps.length = [] from rfl, List.map_nil, List.append_nil]; rfl
  | .plc s, ps => by show (D.int (ps.length : Nat), ps ++ [D.tup [.str "get", llD s]]) = _; rw [llD_sl]; rfl
  | .mrk s, ps => by show (D.int (ps.length : Nat), ps ++ [D.tup [.str "ask", llD s]]) = _; rw [llD_sl]; rfl
  | .cel e, ps => by
    show (D.int ((prt e ps).2.length : Nat), (prt e ps).2 ++ [D.tup [.str "cell", (prt e ps).1]]) = _
    have hl : (ps ++ (rwE e ps.length).map rwD).length = ps.length + cnt e := by rw [List.length_append, List.length_map, rwE_len]
    rw [prt_rw e ps]
    show (D.int ((ps ++ (rwE e ps.length).map rwD).length : Nat), (ps ++ (rwE e ps.length).map rwD) ++ [D.tup [.str "cell", rfD (rfE e ps.length)]]) = (D.int ((ps.length + (cnt e + 1) - 1 : Nat) : Int), ps ++ (rwE e ps.length ++ [Rw.cell (rfE e ps.length)]).map rwD)
    rw [hl, List.map_append, List.append_assoc]; rfl
  | .op o x y, ps => by
    have hx : (ps ++ (rwE x ps.length).map rwD).length = ps.length + cnt x := by rw [List.length_append, List.length_map, rwE_len]
    have hy : (ps ++ (rwE x ps.length).map rwD ++ (rwE y (ps.length + cnt x)).map rwD).length = ps.length + cnt x + cnt y := by rw [List.length_append, hx, List.length_map, rwE_len]
    show (D.int ((prt y (prt x ps).2).2.length : Nat), (prt y (prt x ps).2).2 ++ [D.tup [.str o.1, (prt x ps).1, (prt y (prt x ps).2).1]]) = _
    rw [prt_rw x ps]
    show (D.int ((prt y (ps ++ (rwE x ps.length).map rwD)).2.length : Nat), (prt y (ps ++ (rwE x ps.length).map rwD)).2 ++ [D.tup [.str o.1, rfD (rfE x ps.length), (prt y (ps ++ (rwE x ps.length).map rwD)).1]]) = _
    rw [prt_rw y (ps ++ (rwE x ps.length).map rwD), hx]
    show (D.int ((ps ++ (rwE x ps.length).map rwD ++ (rwE y (ps.length + cnt x)).map rwD).length : Nat), ps ++ (rwE x ps.length).map rwD ++ (rwE y (ps.length + cnt x)).map rwD ++ [D.tup [.str o.1, rfD (rfE x ps.length), rfD (rfE y (ps.length + cnt x))]]) = (D.int ((ps.length + (cnt x + cnt y + 1) - 1 : Nat) : Int), ps ++ (rwE x ps.length ++ (rwE y (ps.length + cnt x) ++ [Rw.two o (rfE x ps.length) (rfE y (ps.length + cnt x))])).map rwD)
    rw [hy, List.map_append, List.map_append, List.append_assoc, List.append_assoc, show ps.length + (cnt x + cnt y + 1) - 1 = ps.length + cnt x + cnt y by omega]; rfl
/-- its own parts -/
def rfO : Rf → List Nat
  | .k _ => []
  | .n i => [i]
def ownR : Rw → List Nat
  | .get _ => [] | .ask _ => []
  | .cell r => rfO r
  | .two _ a b => rfO a ++ rfO b
theorem rfO_E (e : Ex) (b : Nat) : rfO (rfE e b) = if isC e then [] else [b + cnt e - 1] := by
  unfold rfE
  cases isC e <;> rfl
/-- what is needed -/
def nd2 (a b : Nat) : Nat := if a = b ∧ 0 < a then a + 1 else max 1 (max a b)
def need : Ex → Nat
  | .num _ => 0 | .fld _ => 0 | .plc _ => 1 | .mrk _ => 1
  | .cel e => max 1 (need e)
  | .op _ a b => nd2 (need a) (need b)
theorem nd2_pos (a b : Nat) : 0 < nd2 a b := by unfold nd2; split <;> omega
theorem need_pos : ∀ {e : Ex}, isC e = false → 0 < need e
  | .num _, h => by cases h
  | .fld _, h => by cases h
  | .plc _, _ => Nat.one_pos
  | .mrk _, _ => Nat.one_pos
  | .cel e, _ => by show 0 < max 1 (need e); omega
  | .op _ a b, _ => nd2_pos _ _
theorem need_c : ∀ {e : Ex}, isC e = true → need e = 0
  | .num _, _ => rfl
  | .fld _, _ => rfl
  | .plc _, h => by cases h
  | .mrk _, h => by cases h
  | .cel _, h => by cases h
  | .op _ _ _, h => by cases h
/-- the order of a tree's parts -/
def ordE : Ex → Nat → List Nat
  | .num _, _ => [] | .fld _, _ => []
  | .plc _, b => [b] | .mrk _, b => [b]
  | .cel e, b => ordE e b ++ [b + cnt e]
  | .op _ x y, b => (if need x < need y then ordE y (b + cnt x) ++ ordE x b else ordE x b ++ ordE y (b + cnt x)) ++ [b + cnt x + cnt y]
theorem ordE_c : ∀ {e : Ex} {b : Nat}, isC e = true → ordE e b = []
  | .num _, _, _ => rfl
  | .fld _, _, _ => rfl
  | .plc _, _, h => by cases h
  | .mrk _, _, h => by cases h
  | .cel _, _, h => by cases h
  | .op _ _ _, _, h => by cases h
/-- what is held behind some parts, in an order -/
def lvS (own : Nat → List Nat) : List Nat → List Nat → List Nat
  | lv, [] => lv
  | lv, n :: r => lvS own (n :: lv.filter fun v => !decide (v ∈ own n)) r
/-- an order that can be -/
def OkS (own : Nat → List Nat) : List Nat → List Nat → Prop
  | _, [] => True
  | lv, n :: r => (∀ o ∈ own n, o ∈ lv) ∧ (own n).Nodup ∧ n ∉ lv ∧ OkS own (n :: lv.filter fun v => !decide (v ∈ own n)) r
/-- the most that are held -/
def mxS (own : Nat → List Nat) : List Nat → List Nat → Nat
  | _, [] => 0
  | lv, n :: r => max ((n :: lv.filter fun v => !decide (v ∈ own n)).length) (mxS own (n :: lv.filter fun v => !decide (v ∈ own n)) r)
section
variable {own : Nat → List Nat}
theorem lvS_app : ∀ (l m lv : List Nat), lvS own lv (l ++ m) = lvS own (lvS own lv l) m
  | [], _, _ => rfl
  | _ :: l, m, _ => lvS_app l m _
theorem OkS_app : ∀ {l m lv : List Nat}, OkS own lv l → OkS own (lvS own lv l) m → OkS own lv (l ++ m)
  | [], _, _, _, h => h
  | _ :: l, m, _, h, g => ⟨h.1, h.2.1, h.2.2.1, OkS_app h.2.2.2 g⟩
theorem mxS_app : ∀ (l m lv : List Nat), mxS own lv (l ++ m) = max (mxS own lv l) (mxS own (lvS own lv l) m)
  | [], m, lv => by show _ = max 0 _; rw [Nat.zero_max]; rfl
  | n :: l, m, lv => by
    show max _ (mxS own _ (l ++ m)) = max (max _ (mxS own _ l)) (mxS own (lvS own _ l) m)
    rw [mxS_app l m, Nat.max_assoc]
theorem filter_keep {l : List Nat} {p : Nat → Bool} (h : ∀ x ∈ l, p x = true) : l.filter p = l := List.filter_eq_self.mpr h
/-- the rows of a tree stand where they are told -/
def At (own : Nat → List Nat) (e : Ex) (b : Nat) : Prop := ∀ (i : Nat) (r : Rw), (rwE e b)[i]? = some r → own (b + i) = ownR r
theorem At.cel {e : Ex} {b : Nat} (h : At own (.cel e) b) : At own e b ∧ own (b + cnt e) = rfO (rfE e b) := by
  refine ⟨fun i r hi => h i r ?_, h (cnt e) (.cell (rfE e b)) ?_⟩
  · show (rwE e b ++ [_])[i]? = _
    rw [List.getElem?_append_left (List.getElem?_eq_some_iff.mp hi).1]; exact hi
  · show (rwE e b ++ [_])[cnt e]? = _
    rw [← rwE_len e b, List.getElem?_append_right (Nat.le_refl _), Nat.sub_self]; rfl
theorem At.op {o : Op} {x y : Ex} {b : Nat} (h : At own (.op o x y) b) : At own x b ∧ At own y (b + cnt x) ∧ own (b + cnt x + cnt y) = rfO (rfE x b) ++ rfO (rfE y (b + cnt x)) := by
  refine ⟨fun i r hi => h i r ?_, fun i r hi => ?_, ?_⟩
  · show (rwE x b ++ (_ ++ [_]))[i]? = _
    rw [List.getElem?_append_left (List.getElem?_eq_some_iff.mp hi).1]; exact hi
  · have := h (cnt x + i) r (by
      show (rwE x b ++ (rwE y (b + cnt x) ++ [_]))[cnt x + i]? = _
      rw [List.getElem?_append_right (by rw [rwE_len]; omega), rwE_len, Nat.add_sub_cancel_left, List.getElem?_append_left (List.getElem?_eq_some_iff.mp hi).1]; exact hi)
    rw [← Nat.add_assoc] at this; exact this
  · have := h (cnt x + cnt y) (.two o (rfE x b) (rfE y (b + cnt x))) (by
      show (rwE x b ++ (rwE y (b + cnt x) ++ [_]))[cnt x + cnt y]? = _
      rw [List.getElem?_append_right (by rw [rwE_len]; omega), rwE_len, Nat.add_sub_cancel_left, List.getElem?_append_right (by rw [rwE_len]; omega), rwE_len, Nat.sub_self]; rfl)
    rw [← Nat.add_assoc] at this; exact this
/-- nothing of it is held -/
def Free (e : Ex) (b : Nat) (lv : List Nat) : Prop := ∀ v ∈ lv, v < b ∨ b + cnt e ≤ v
/-- a tree's parts in order: they can be, its root is held in the end, never more than is needed -/
theorem tree : ∀ (e : Ex) (b : Nat) (lv : List Nat), At own e b → Free e b lv → isC e = false → OkS own lv (ordE e b) ∧ lvS own lv (ordE e b) = (b + cnt e - 1) :: lv ∧ mxS own lv (ordE e b) = lv.length + need e
  | .num _, _, _, _, _, h => by cases h
  | .fld _, _, _, _, _, h => by cases h
  | .plc s, b, lv, hA, hF, _ => by
    have h0 : own b = [] := hA 0 (.get s) rfl
    have hb : b ∉ lv := fun h => by rcases hF b h with h | h; omega; exact absurd (show b + 1 ≤ b from h) (by omega)
    have hk : (lv.filter fun v => !decide (v ∈ own b)) = lv := filter_keep fun v _ => by rw [h0]; rfl
    refine ⟨⟨(by rw [h0]; intro _ h; cases h), (by rw [h0]; exact List.nodup_nil), hb, trivial⟩, ?_, ?_⟩
    · show b :: (lv.filter fun v => !decide (v ∈ own b)) = _; rw [hk]; rfl
    · show max (b :: (lv.filter fun v => !decide (v ∈ own b))).length 0 = _; rw [hk, List.length_cons]; show _ = lv.length + 1; omega
  | .mrk s, b, lv, hA, hF, _ => by
    have h0 : own b = [] := hA 0 (.ask s) rfl
    have hb : b ∉ lv := fun h => by rcases hF b h with h | h; omega; exact absurd (show b + 1 ≤ b from h) (by omega)
    have hk : (lv.filter fun v => !decide (v ∈ own b)) = lv := filter_keep fun v _ => by rw [h0]; rfl
    refine ⟨⟨(by rw [h0]; intro _ h; cases h), (by rw [h0]; exact List.nodup_nil), hb, trivial⟩, ?_, ?_⟩
    · show b :: (lv.filter fun v => !decide (v ∈ own b)) = _; rw [hk]; rfl
    · show max (b :: (lv.filter fun v => !decide (v ∈ own b))).length 0 = _; rw [hk, List.length_cons]; show _ = lv.length + 1; omega
  | .cel e, b, lv, hA, hF, _ => by
    obtain ⟨hA1, h0⟩ := hA.cel
    have hF1 : ∀ v ∈ lv, v < b ∨ b + cnt e + 1 ≤ v := fun v hv => by have := hF v hv; show _ ∨ b + (cnt e + 1) ≤ v; exact this
    have hn : b + cnt e ∉ lv := fun h => by have := hF1 _ h; omega
    rw [rfO_E] at h0
    cases hc : isC e with
    | true =>
      rw [hc, if_pos rfl] at h0
      have hk : (lv.filter fun v => !decide (v ∈ own (b + cnt e))) = lv := filter_keep fun v _ => by rw [h0]; rfl
      show OkS own lv (ordE e b ++ [b + cnt e]) ∧ lvS own lv (ordE e b ++ [b + cnt e]) = (b + (cnt e + 1) - 1) :: lv ∧ mxS own lv (ordE e b ++ [b + cnt e]) = lv.length + max 1 (need e)
      rw [ordE_c hc, List.nil_append, need_c hc]
      refine ⟨⟨(by rw [h0]; intro _ h; cases h), (by rw [h0]; exact List.nodup_nil), hn, trivial⟩, ?_, ?_⟩
      · show (b + cnt e) :: (lv.filter fun v => !decide (v ∈ own (b + cnt e))) = _; rw [hk]; rfl
      · show max ((b + cnt e) :: (lv.filter fun v => !decide (v ∈ own (b + cnt e)))).length 0 = _; rw [hk, List.length_cons]; omega
    | false =>
      rw [hc, if_neg Bool.false_ne_true] at h0
      have hp := cnt_pos hc
      obtain ⟨k1, k2, k3⟩ := tree e b lv hA1 (fun v hv => by have := hF1 v hv; omega) hc
      have hr : b + cnt e - 1 ∉ lv := fun h => by have := hF1 _ h; omega
      have hk : (((b + cnt e - 1) :: lv).filter fun v => !decide (v ∈ own (b + cnt e))) = lv := by
        rw [h0, List.filter_cons, if_neg (by simp)]
        exact filter_keep fun v hv => by simp only [List.mem_singleton, Bool.not_eq_true', decide_eq_false_iff_not]; intro e; exact hr (e ▸ hv)
      show OkS own lv (ordE e b ++ [b + cnt e]) ∧ lvS own lv (ordE e b ++ [b + cnt e]) = (b + (cnt e + 1) - 1) :: lv ∧ mxS own lv (ordE e b ++ [b + cnt e]) = lv.length + max 1 (need e)
      rw [lvS_app, mxS_app, k2, k3]
      refine ⟨OkS_app k1 ?_, ?_, ?_⟩
      · rw [k2]
        refine ⟨(by rw [h0]; intro o h; rw [List.mem_singleton.mp h]; exact List.mem_cons_self), (by rw [h0]; exact List.pairwise_singleton _ _), fun h => ?_, trivial⟩
        rcases List.mem_cons.mp h with h | h
        · omega
        · exact hn h
      · show (b + cnt e) :: (((b + cnt e - 1) :: lv).filter fun v => !decide (v ∈ own (b + cnt e))) = _; rw [hk]; rfl
      · show max _ (max ((b + cnt e) :: (((b + cnt e - 1) :: lv).filter fun v => !decide (v ∈ own (b + cnt e)))).length 0) = _; rw [hk, List.length_cons]
        have := need_pos hc; omega
  | .op o x y, b, lv, hA, hF, _ => by
    obtain ⟨hAx, hAy, h0⟩ := hA.op
    have hF1 : ∀ v ∈ lv, v < b ∨ b + cnt x + cnt y + 1 ≤ v := fun v hv => by have := hF v hv; rcases this with h | h; exact .inl h; exact .inr (by have : b + (cnt x + cnt y + 1) ≤ v := h; omega)
    have hn : b + cnt x + cnt y ∉ lv := fun h => by have := hF1 _ h; omega
    rw [rfO_E, rfO_E] at h0
    show OkS own lv ((if need x < need y then ordE y (b + cnt x) ++ ordE x b else ordE x b ++ ordE y (b + cnt x)) ++ [b + cnt x + cnt y]) ∧ lvS own lv ((if need x < need y then ordE y (b + cnt x) ++ ordE x b else ordE x b ++ ordE y (b + cnt x)) ++ [b + cnt x + cnt y]) = (b + (cnt x + cnt y + 1) - 1) :: lv ∧ mxS own lv ((if need x < need y then ordE y (b + cnt x) ++ ordE x b else ordE x b ++ ordE y (b + cnt x)) ++ [b + cnt x + cnt y]) = lv.length + nd2 (need x) (need y)
    have fin : ∀ (l cs : List Nat) (m : Nat), OkS own lv l → lvS own lv l = cs ++ lv → mxS own lv l = m → cs.Perm (own (b + cnt x + cnt y)) → cs.Nodup → (∀ c ∈ cs, c ∉ lv ∧ c ≠ b + cnt x + cnt y) → max m (lv.length + 1) = lv.length + nd2 (need x) (need y) →
        OkS own lv (l ++ [b + cnt x + cnt y]) ∧ lvS own lv (l ++ [b + cnt x + cnt y]) = (b + (cnt x + cnt y + 1) - 1) :: lv ∧ mxS own lv (l ++ [b + cnt x + cnt y]) = lv.length + nd2 (need x) (need y) := by
      intro l cs m k1 k2 k3 hp hd hc hm
      have hk : ((cs ++ lv).filter fun v => !decide (v ∈ own (b + cnt x + cnt y))) = lv := by
        rw [List.filter_append, List.filter_eq_nil_iff.mpr (fun v hv => by simp [hp.mem_iff.mp hv]), List.nil_append]
        refine filter_keep fun v hv => ?_
        simp only [Bool.not_eq_true', decide_eq_false_iff_not]
        exact fun h => (hc v (hp.mem_iff.mpr h)).1 hv
      rw [lvS_app, mxS_app, k2, k3]
      refine ⟨OkS_app k1 ?_, ?_, ?_⟩
      · rw [k2]
        refine ⟨fun o ho => List.mem_append_left _ (hp.mem_iff.mpr ho), hp.nodup_iff.mp hd, fun h => ?_, trivial⟩
        rcases List.mem_append.mp h with h | h
        · exact (hc _ h).2 rfl
        · exact hn h
      · show (b + cnt x + cnt y) :: ((cs ++ lv).filter fun v => !decide (v ∈ own (b + cnt x + cnt y))) = _
        rw [hk, show b + (cnt x + cnt y + 1) - 1 = b + cnt x + cnt y by omega]
      · show max m (max ((b + cnt x + cnt y) :: ((cs ++ lv).filter fun v => !decide (v ∈ own (b + cnt x + cnt y)))).length 0) = _
        rw [hk, List.length_cons, ← hm]; omega
    cases hx : isC x with
    | true =>
      rw [hx, if_pos rfl, List.nil_append] at h0
      rw [ordE_c hx, List.nil_append, List.append_nil, ite_self]
      have cx := cnt_c hx
      cases hy : isC y with
      | true =>
        rw [hy, if_pos rfl] at h0
        rw [ordE_c hy]
        exact fin [] [] 0 trivial rfl rfl (by rw [h0]) List.nodup_nil (fun _ h => by cases h) (by rw [need_c hx, need_c hy]; unfold nd2; simp)
      | false =>
        rw [hy, if_neg Bool.false_ne_true] at h0
        have hp := cnt_pos hy
        obtain ⟨k1, k2, k3⟩ := tree y (b + cnt x) lv hAy (fun v hv => by have := hF1 v hv; omega) hy
        exact fin _ [b + cnt x + cnt y - 1] _ k1 k2 k3 (by rw [h0]) (List.pairwise_singleton _ _) (fun c hc => by
          rw [List.mem_singleton.mp hc]
          exact ⟨fun h => by have := hF1 _ h; omega, by omega⟩) (by rw [need_c hx]; have := need_pos hy; unfold nd2; split <;> omega)
    | false =>
      rw [hx, if_neg Bool.false_ne_true] at h0
      have px := cnt_pos hx
      have nx := need_pos hx
      cases hy : isC y with
      | true =>
        rw [hy, if_pos rfl, List.append_nil] at h0
        rw [ordE_c hy, List.nil_append, List.append_nil, ite_self]
        have cy := cnt_c hy
        obtain ⟨k1, k2, k3⟩ := tree x b lv hAx (fun v hv => by have := hF1 v hv; omega) hx
        exact fin _ [b + cnt x - 1] _ k1 k2 k3 (by rw [h0]) (List.pairwise_singleton _ _) (fun c hc => by
          rw [List.mem_singleton.mp hc]
          exact ⟨fun h => by have := hF1 _ h; omega, by omega⟩) (by rw [need_c hy]; unfold nd2; split <;> omega)
      | false =>
        rw [hy, if_neg Bool.false_ne_true] at h0
        have py := cnt_pos hy
        have ny := need_pos hy
        have dis : ∀ c ∈ [b + cnt x - 1, b + cnt x + cnt y - 1], c ∉ lv ∧ c ≠ b + cnt x + cnt y := fun c hc => by
          simp only [List.mem_cons, List.not_mem_nil, or_false] at hc
          rcases hc with rfl | rfl
          · exact ⟨fun h => by have := hF1 _ h; omega, by omega⟩
          · exact ⟨fun h => by have := hF1 _ h; omega, by omega⟩
        by_cases hlt : need x < need y
        · rw [if_pos hlt]
          obtain ⟨k1, k2, k3⟩ := tree y (b + cnt x) lv hAy (fun v hv => by have := hF1 v hv; omega) hy
          obtain ⟨j1, j2, j3⟩ := tree x b ((b + cnt x + cnt y - 1) :: lv) hAx (fun v hv => by rcases List.mem_cons.mp hv with rfl | hv; exact .inr (by omega); have := hF1 v hv; omega) hx
          refine fin _ [b + cnt x - 1, b + cnt x + cnt y - 1] (max (lv.length + need y) (lv.length + 1 + need x)) (OkS_app k1 (by rw [k2]; exact j1)) ?_ ?_ (by rw [h0]; exact List.Perm.refl _) (List.nodup_cons.mpr ⟨fun h => by have := List.mem_singleton.mp h; omega, List.pairwise_singleton _ _⟩) dis ?_
          · rw [lvS_app, k2, j2]; rfl
          · rw [mxS_app, k2, k3, j3, List.length_cons]
          · unfold nd2; rw [if_neg (by omega)]; omega
        · rw [if_neg hlt]
          obtain ⟨k1, k2, k3⟩ := tree x b lv hAx (fun v hv => by have := hF1 v hv; omega) hx
          obtain ⟨j1, j2, j3⟩ := tree y (b + cnt x) ((b + cnt x - 1) :: lv) hAy (fun v hv => by rcases List.mem_cons.mp hv with rfl | hv; exact .inl (by omega); have := hF1 v hv; omega) hy
          refine fin _ [b + cnt x + cnt y - 1, b + cnt x - 1] (max (lv.length + need x) (lv.length + 1 + need y)) (OkS_app k1 (by rw [k2]; exact j1)) ?_ ?_ (by rw [h0]; exact List.Perm.swap _ _ _) (List.nodup_cons.mpr ⟨fun h => by have := List.mem_singleton.mp h; omega, List.pairwise_singleton _ _⟩) (fun c hc => dis c (by simp only [List.mem_cons, List.not_mem_nil, or_false] at hc ⊢; exact hc.symm)) ?_
          · rw [lvS_app, k2, j2]; rfl
          · rw [mxS_app, k2, k3, j3, List.length_cons]
          · unfold nd2; split <;> omega
end

/-- the trees of some sets -/
def treesL : Lt → Nat → List (Ex × Nat)
  | .cel x y, b => [(x, b), (y, b + cnt x)]
  | .put _ _ e, b => [(e, b)]
def cntL : Lt → Nat
  | .cel x y => cnt x + cnt y
  | .put _ _ e => cnt e
def trs : List Lt → Nat → List (Ex × Nat)
  | [], _ => []
  | s :: r, b => treesL s b ++ trs r (b + cntL s)
def rootL : Lt → Nat → List Rf
  | .cel x y, b => [rfE x b, rfE y (b + cnt x)]
  | .put _ _ e, b => [rfE e b]
def roots : List Lt → Nat → List (List Rf)
  | [], _ => []
  | s :: r, b => rootL s b :: roots r (b + cntL s)
def rwT (ts : List (Ex × Nat)) : List Rw := ts.flatMap fun t => rwE t.1 t.2
def rowsS (ss : List Lt) : List Rw := rwT (trs ss 0)
abbrev rtD (r : List Rf) : D := .tup (r.map rfD)
theorem rwT_len : ∀ ts : List (Ex × Nat), (rwT ts).length = (ts.map fun t => cnt t.1).sum
  | [] => rfl
  | t :: ts => by
    show (rwE t.1 t.2 ++ rwT ts).length = _
    rw [List.length_append, rwE_len, rwT_len ts, List.map_cons, List.sum_cons]
theorem treesL_cnt (s : Lt) (b : Nat) : (rwT (treesL s b)).length = cntL s := by
  rw [rwT_len]
  cases s with
  | cel x y => show cnt x + (cnt y + 0) = cnt x + cnt y; omega
  | put m l e => show cnt e + 0 = cnt e; omega
theorem stp_rw (X : List D × List D) (s : Lt) : stp X s = (X.1 ++ (rwT (treesL s X.1.length)).map rwD, X.2 ++ [rtD (rootL s X.1.length)]) := by
  cases s with
  | cel x y =>
    have hx : (X.1 ++ (rwE x X.1.length).map rwD).length = X.1.length + cnt x := by rw [List.length_append, List.length_map, rwE_len]
    show ((prt y (prt x X.1).2).2, X.2 ++ [D.tup [(prt x X.1).1, (prt y (prt x X.1).2).1]]) = _
    rw [prt_rw x X.1]
    show ((prt y (X.1 ++ (rwE x X.1.length).map rwD)).2, X.2 ++ [D.tup [rfD (rfE x X.1.length), (prt y (X.1 ++ (rwE x X.1.length).map rwD)).1]]) = _
    rw [prt_rw y _, hx]
    show (X.1 ++ (rwE x X.1.length).map rwD ++ (rwE y (X.1.length + cnt x)).map rwD, _) = (X.1 ++ (rwE x X.1.length ++ (rwE y (X.1.length + cnt x) ++ [])).map rwD, _)
    rw [List.append_nil, List.map_append, List.append_assoc]; rfl
  | put m l e =>
    show ((prt e X.1).2, X.2 ++ [D.tup [(prt e X.1).1]]) = _
    rw [prt_rw e X.1]
    show (X.1 ++ (rwE e X.1.length).map rwD, _) = (X.1 ++ (rwE e X.1.length ++ []).map rwD, _)
    rw [List.append_nil]; rfl
theorem fold_rw : ∀ (ss : List Lt) (X : List D × List D), ss.foldl stp X = (X.1 ++ (rwT (trs ss X.1.length)).map rwD, X.2 ++ (roots ss X.1.length).map rtD)
  | [], X => by show X = (X.1 ++ [], X.2 ++ []); rw [List.append_nil, List.append_nil]
  | s :: ss, X => by
    have hl : (X.1 ++ (rwT (treesL s X.1.length)).map rwD).length = X.1.length + cntL s := by rw [List.length_append, List.length_map, treesL_cnt]
    rw [List.foldl_cons, stp_rw, fold_rw ss]
    show (X.1 ++ (rwT (treesL s X.1.length)).map rwD ++ (rwT (trs ss (X.1 ++ (rwT (treesL s X.1.length)).map rwD).length)).map rwD, X.2 ++ [rtD (rootL s X.1.length)] ++ (roots ss (X.1 ++ (rwT (treesL s X.1.length)).map rwD).length).map rtD) = (X.1 ++ (rwT (treesL s X.1.length ++ trs ss (X.1.length + cntL s))).map rwD, X.2 ++ rtD (rootL s X.1.length) :: (roots ss (X.1.length + cntL s)).map rtD)
    rw [hl, List.append_assoc, List.append_assoc]
    unfold rwT
    rw [List.flatMap_append, List.map_append]; rfl
theorem rts_rw (ss : List Lt) : rts ss = ((rowsS ss).map rwD, (roots ss 0).map rtD) := by
  show ss.foldl stp ([], []) = _
  rw [fold_rw ss]; rfl
/-- own parts by numbers -/
def ownL (L : List Rw) (n : Nat) : List Nat := match L[n]? with
  | some r => ownR r
  | none => []
/-- the trees stand one behind the other -/
def Row : Nat → List (Ex × Nat) → Prop
  | _, [] => True
  | b, t :: r => t.2 = b ∧ Row (b + cnt t.1) r
theorem Row.app : ∀ {l m : List (Ex × Nat)} {b : Nat}, Row b l → Row (b + (rwT l).length) m → Row b (l ++ m)
  | [], m, b, _, h => h
  | t :: l, m, b, h, g => ⟨h.1, Row.app h.2 (by
      have e : (rwT (t :: l)).length = cnt t.1 + (rwT l).length := by rw [rwT_len, rwT_len, List.map_cons, List.sum_cons]
      rw [e, ← Nat.add_assoc] at g; exact g)⟩
theorem trs_row : ∀ (ss : List Lt) (b : Nat), Row b (trs ss b)
  | [], _ => trivial
  | s :: ss, b => by
    refine Row.app ?_ ?_
    · cases s with
      | cel x y => exact ⟨rfl, rfl, trivial⟩
      | put m l e => exact ⟨rfl, trivial⟩
    · rw [treesL_cnt]; exact trs_row ss _
theorem row_at : ∀ {ts : List (Ex × Nat)} {b : Nat} {pre : List Rw}, Row b ts → pre.length = b → ∀ t ∈ ts, At (ownL (pre ++ rwT ts)) t.1 t.2
  | [], _, _, _, _, t, ht => by cases ht
  | u :: ts, b, pre, h, hp, t, ht => by
    have e : pre ++ rwT (u :: ts) = (pre ++ rwE u.1 u.2) ++ rwT ts := by rw [List.append_assoc]; rfl
    rcases List.mem_cons.mp ht with rfl | ht
    · intro i r hi
      have hl := (List.getElem?_eq_some_iff.mp hi).1
      have hb := h.1
      subst hb
      unfold ownL
      rw [e, List.getElem?_append_left (by rw [List.length_append, hp]; omega), List.getElem?_append_right (by rw [hp]; omega), hp, Nat.add_sub_cancel_left, hi]
    · rw [e]
      exact row_at h.2 (by rw [List.length_append, hp, rwE_len]) t ht
theorem trs_at (ss : List Lt) : ∀ t ∈ trs ss 0, At (ownL (rowsS ss)) t.1 t.2 := fun t ht => by
  have := row_at (pre := []) (trs_row ss 0) rfl t ht
  exact this
/-- two trees that share nothing -/
def Apart (t u : Ex × Nat) : Prop := t.2 + cnt t.1 ≤ u.2 ∨ u.2 + cnt u.1 ≤ t.2
theorem row_lo : ∀ {ts : List (Ex × Nat)} {b : Nat}, Row b ts → ∀ t ∈ ts, b ≤ t.2 ∧ t.2 + cnt t.1 ≤ b + (rwT ts).length
  | [], _, _, t, ht => by cases ht
  | u :: ts, b, h, t, ht => by
    have e : (rwT (u :: ts)).length = cnt u.1 + (rwT ts).length := by rw [rwT_len, rwT_len, List.map_cons, List.sum_cons]
    rcases List.mem_cons.mp ht with rfl | ht
    · rw [e]; have := h.1; omega
    · have := row_lo h.2 t ht
      rw [e]; omega
theorem row_apart : ∀ {ts : List (Ex × Nat)} {b : Nat}, Row b ts → ts.Pairwise Apart
  | [], _, _ => List.Pairwise.nil
  | u :: ts, b, h => List.pairwise_cons.mpr ⟨fun t ht => .inl (by have := row_lo h.2 t ht; have := h.1; omega), row_apart h.2⟩
/-- some trees in order -/
def ordT (ts : List (Ex × Nat)) : List Nat := ts.flatMap fun t => ordE t.1 t.2
abbrev rnum (t : Ex × Nat) : Nat := t.2 + cnt t.1 - 1
def pk : Nat → List Nat → Nat
  | _, [] => 0
  | k, n :: r => max (k + n) (pk (k + 1) r)
theorem trees_ok {own : Nat → List Nat} : ∀ (ts : List (Ex × Nat)) (lv : List Nat), (∀ t ∈ ts, At own t.1 t.2 ∧ isC t.1 = false ∧ Free t.1 t.2 lv) → ts.Pairwise Apart →
    OkS own lv (ordT ts) ∧ lvS own lv (ordT ts) = (ts.map rnum).reverse ++ lv ∧ mxS own lv (ordT ts) = pk lv.length (ts.map fun t => need t.1)
  | [], lv, _, _ => ⟨trivial, rfl, rfl⟩
  | t :: ts, lv, h, hp => by
    obtain ⟨a1, a2, a3⟩ := h t List.mem_cons_self
    obtain ⟨k1, k2, k3⟩ := tree t.1 t.2 lv a1 a3 a2
    obtain ⟨p1, p2⟩ := List.pairwise_cons.mp hp
    have hc := cnt_pos a2
    obtain ⟨j1, j2, j3⟩ := trees_ok ts (rnum t :: lv) (fun u hu => by
      obtain ⟨b1, b2, b3⟩ := h u (List.mem_cons_of_mem _ hu)
      refine ⟨b1, b2, fun v hv => ?_⟩
      rcases List.mem_cons.mp hv with rfl | hv
      · rcases p1 u hu with q | q
        · exact .inl (by show t.2 + cnt t.1 - 1 < _; omega)
        · exact .inr (by show _ ≤ t.2 + cnt t.1 - 1; omega)
      · exact b3 v hv) p2
    show OkS own lv (ordE t.1 t.2 ++ ordT ts) ∧ lvS own lv (ordE t.1 t.2 ++ ordT ts) = _ ∧ mxS own lv (ordE t.1 t.2 ++ ordT ts) = max (lv.length + need t.1) (pk (lv.length + 1) _)
    rw [lvS_app, mxS_app, k2, k3]
    refine ⟨OkS_app k1 (by rw [k2]; exact j1), ?_, ?_⟩
    · rw [j2, List.map_cons, List.reverse_cons, List.append_assoc]; rfl
    · rw [j3]; rfl
/-- the trees with parts, told with their needs; sorted -/
def triG : Nat → List (Ex × Nat) → List (List Int)
  | _, [] => []
  | i, t :: r => if isC t.1 then triG i r else [-(need t.1 : Int), (i : Int), (rnum t : Int)] :: triG (i + 1) r
abbrev ncs (ts : List (Ex × Nat)) : List (Ex × Nat) := ts.filter fun t => !isC t.1
def tri (p : (Ex × Nat) × Nat) : List Int := [-(need p.1.1 : Int), (p.2 : Int), (rnum p.1 : Int)]
theorem triG_map : ∀ (ts : List (Ex × Nat)) (i : Nat), triG i ts = ((ncs ts).zipIdx i).map tri
  | [], _ => rfl
  | t :: r, i => by
    show (if isC t.1 then triG i r else _ :: triG (i + 1) r) = ((List.filter _ (t :: r)).zipIdx i).map tri
    cases h : isC t.1 with
    | true => rw [if_pos rfl, List.filter_cons, if_neg (by rw [h]; decide)]; exact triG_map r i
    | false => rw [if_neg Bool.false_ne_true, List.filter_cons, if_pos (by rw [h]; rfl), triG_map r (i + 1)]; rfl
def fallZ (ss : List Lt) : List ((Ex × Nat) × Nat) := ((ncs (trs ss 0)).zipIdx 0).mergeSort (fun p q => PySem.W.dataLe false encI (tri p) (tri q))
theorem srt_fall (ss : List Lt) : srtI (triG 0 (trs ss 0)) = (fallZ ss).map tri := by
  rw [triG_map]
  exact (PySem.W.sort_maps tri fun _ _ _ _ => rfl).symm
def fallT (ss : List Lt) : List (Ex × Nat) := (fallZ ss).map (·.1)
theorem fall_perm (ss : List Lt) : (fallT ss).Perm (ncs (trs ss 0)) := by
  have h := (List.mergeSort_perm ((ncs (trs ss 0)).zipIdx 0) (fun p q => PySem.W.dataLe false encI (tri p) (tri q))).map (·.1)
  rw [List.zipIdx_map_fst] at h
  exact h
def ordS (ss : List Lt) : List Nat := ordT (fallT ss)
theorem le_head {a b : Int} {x y : List Int} (h : PySem.W.dataLe false encI (a :: x) (b :: y) = true) : a ≤ b := by
  have h2 : (!PySem.W.dataLt (encI (b :: y)) (encI (a :: x))) = true := h
  rw [Bool.not_eq_true'] at h2
  have h3 : PySem.W.rowLt ((b :: y).map PyData.int) ((a :: x).map PyData.int) = false := by
    rw [← h2]; exact (PySem.W.dataLt_tuple _ _).symm
  rw [PySem.W.dataLt_ints, decide_eq_false_iff_not] at h3
  rw [List.cons_lt_cons_iff] at h3
  omega
theorem fall_desc (ss : List Lt) : ((fallT ss).map fun t => need t.1).Pairwise (fun a b => b ≤ a) := by
  have h : (fallZ ss).Pairwise (fun p q => PySem.W.dataLe false encI (tri p) (tri q) = true) := PySem.W.sort_pairwise (PySem.W.sortLe_total _ _ _) _
  unfold fallT
  rw [List.map_map, List.pairwise_map]
  refine h.imp fun {p q} hpq => ?_
  have := le_head hpq
  show need q.1.1 ≤ need p.1.1
  omega
theorem ord_ok (ss : List Lt) : OkS (ownL (rowsS ss)) [] (ordS ss) ∧ lvS (ownL (rowsS ss)) [] (ordS ss) = ((fallT ss).map rnum).reverse ∧ mxS (ownL (rowsS ss)) [] (ordS ss) = pk 0 ((fallT ss).map fun t => need t.1) := by
  have hm : ∀ t ∈ fallT ss, t ∈ trs ss 0 ∧ isC t.1 = false := fun t ht => by
    have h := (fall_perm ss).mem_iff.mp ht
    obtain ⟨h1, h2⟩ := List.mem_filter.mp h
    exact ⟨h1, by simpa using h2⟩
  have hp : (fallT ss).Pairwise Apart := by
    have h : (ncs (trs ss 0)).Pairwise Apart := (row_apart (trs_row ss 0)).filter _
    exact ((fall_perm ss).pairwise_iff (fun {a b} h => h.elim .inr .inl)).mpr h
  obtain ⟨h1, h2, h3⟩ := trees_ok (own := ownL (rowsS ss)) (fallT ss) [] (fun t ht => ⟨trs_at ss t (hm t ht).1, (hm t ht).2, fun _ h => by cases h⟩) hp
  rw [List.append_nil] at h2
  exact ⟨h1, h2, h3⟩
theorem desc_uniq : ∀ {a b : List Nat}, a.Perm b → a.Pairwise (fun x y => y ≤ x) → b.Pairwise (fun x y => y ≤ x) → a = b
  | [], b, p, _, _ => (List.nil_perm.mp p).symm
  | x :: a, [], p, _, _ => by have := p.length_eq; cases this
  | x :: a, y :: b, p, h, g => by
    obtain ⟨h1, h2⟩ := List.pairwise_cons.mp h
    obtain ⟨g1, g2⟩ := List.pairwise_cons.mp g
    have e : x = y := by
      have l1 : y ≤ x := by
        rcases List.mem_cons.mp (p.mem_iff.mpr (List.mem_cons_self (a := y) (l := b))) with e | m
        · omega
        · exact h1 y m
      have l2 : x ≤ y := by
        rcases List.mem_cons.mp (p.mem_iff.mp (List.mem_cons_self (a := x) (l := a))) with e | m
        · omega
        · exact g1 x m
      omega
    subst e
    rw [desc_uniq ((List.perm_cons x).mp p) h2 g2]

/-- inner places: the free ones, where each part lies -/
abbrev Ip := List Nat × (Nat → Nat)
def upF (f : Nat → Nat) (n v : Nat) : Nat → Nat := fun x => if x = n then v else f x
theorem upF_same {f : Nat → Nat} {n v : Nat} : upF f n v n = v := if_pos rfl
theorem upF_ne {f : Nat → Nat} {n v x : Nat} (h : x ≠ n) : upF f n v x = f x := if_neg h
def frS (own : Nat → List Nat) (st : Ip) (n : Nat) : List Nat := st.1 ++ (own n).map st.2
def smS (own : Nat → List Nat) (st : Ip) (n : Nat) : Ip := ((frS own st n).tail, upF st.2 n ((frS own st n).headD 0))
def smL (own : Nat → List Nat) : Ip → List Nat → Ip
  | st, [] => st
  | st, n :: r => smL own (smS own st n) r
theorem smL_snoc (own : Nat → List Nat) : ∀ (l : List Nat) (st : Ip) (n : Nat), smL own st (l ++ [n]) = smS own (smL own st l) n
  | [], _, _ => rfl
  | _ :: l, _, n => smL_snoc own l _ n
theorem lvS_snoc (own : Nat → List Nat) (l : List Nat) (lv : List Nat) (n : Nat) : lvS own lv (l ++ [n]) = n :: (lvS own lv l).filter fun v => !decide (v ∈ own n) := by rw [lvS_app]; rfl
def SmOk (many : Nat) (lv : List Nat) (st : Ip) : Prop := (lv.map st.2 ++ st.1).Perm (List.range many)
theorem own_perm {lv os : List Nat} (h : ∀ o ∈ os, o ∈ lv) (hd : os.Nodup) (hl : lv.Nodup) : lv.Perm (os ++ lv.filter fun v => !decide (v ∈ os)) := by
  have h1 := (List.filter_append_perm (fun v => decide (v ∈ os)) lv).symm
  refine h1.trans (List.Perm.append_right _ ?_)
  refine (List.perm_ext_iff_of_nodup (hl.filter _) hd).mpr fun v => ?_
  rw [List.mem_filter, decide_eq_true_iff]
  exact ⟨fun h => h.2, fun hv => ⟨h v hv, hv⟩⟩
theorem sm_step {own : Nat → List Nat} {many n : Nat} {lv r : List Nat} {st : Ip} (h : OkS own lv (n :: r)) (hs : SmOk many lv st) (hm : mxS own lv (n :: r) ≤ many) :
    ∃ to tl, frS own st n = to :: tl ∧ smS own st n = (tl, upF st.2 n to) ∧ to < many ∧ SmOk many (n :: lv.filter fun v => !decide (v ∈ own n)) (smS own st n) ∧ (∀ v ∈ lv.filter fun v => !decide (v ∈ own n), st.2 v ≠ to) := by
  obtain ⟨h1, h2, h3, _⟩ := h
  have hnd : (lv.map st.2 ++ st.1).Nodup := hs.nodup_iff.mpr List.nodup_range
  have hlv : lv.Nodup := by
    have := (List.nodup_append.mp hnd).1
    exact List.Pairwise.imp (fun h e => h (by rw [e])) (List.pairwise_map.mp this)
  have p0 := own_perm h1 h2 hlv
  have p1 : ((lv.filter fun v => !decide (v ∈ own n)).map st.2 ++ frS own st n).Perm (List.range many) := by
    refine List.Perm.trans ?_ hs
    unfold frS
    have q := (p0.map st.2).append_right st.1
    rw [List.map_append, List.append_assoc] at q
    refine List.Perm.trans ?_ q.symm
    rw [← List.append_assoc]
    refine (List.perm_append_comm).trans ?_
    exact List.Perm.refl _
  have hlen : ((lv.filter fun v => !decide (v ∈ own n)).length + (frS own st n).length) = many := by
    have := p1.length_eq
    rw [List.length_append, List.length_map, List.length_range] at this; exact this
  have hmax : (lv.filter fun v => !decide (v ∈ own n)).length + 1 ≤ many := by
    have : (n :: lv.filter fun v => !decide (v ∈ own n)).length ≤ mxS own lv (n :: r) := Nat.le_max_left _ _
    rw [List.length_cons] at this; omega
  cases hf : frS own st n with
  | nil => rw [hf, List.length_nil] at hlen; omega
  | cons to tl =>
    have es : smS own st n = (tl, upF st.2 n to) := by unfold smS; rw [hf]; rfl
    rw [hf] at p1
    have nd1 : ((lv.filter fun v => !decide (v ∈ own n)).map st.2 ++ to :: tl).Nodup := p1.nodup_iff.mpr List.nodup_range
    have hne : ∀ v ∈ lv.filter fun v => !decide (v ∈ own n), st.2 v ≠ to := fun v hv e => (List.nodup_append.mp nd1).2.2 (st.2 v) (List.mem_map.mpr ⟨v, hv, rfl⟩) to List.mem_cons_self e
    refine ⟨to, tl, rfl, es, List.mem_range.mp (p1.mem_iff.mp (List.mem_append_right _ List.mem_cons_self)), ?_, hne⟩
    rw [es]
    show ((n :: lv.filter fun v => !decide (v ∈ own n)).map (upF st.2 n to) ++ tl).Perm _
    have em : (lv.filter fun v => !decide (v ∈ own n)).map (upF st.2 n to) = (lv.filter fun v => !decide (v ∈ own n)).map st.2 := List.map_congr_left fun v hv => upF_ne fun e => h3 (e ▸ (List.mem_filter.mp hv).1)
    rw [List.map_cons, upF_same, em]
    refine List.Perm.trans ?_ p1
    exact (List.perm_middle).symm
/-- sources, steps -/
def srI (inn : Nat → Nat) : Rf → Sr
  | .k c => c
  | .n i => (0, (inn i : Nat))
def stI (inn : Nat → Nat) (to : Nat) : Rw → St
  | .get s => .get (to : Nat) s
  | .ask s => .ask (to : Nat) s
  | .cell r => .cell (to : Nat) (srI inn r)
  | .two o a b => .two (to : Nat) o.1 (srI inn a) (srI inn b)
def stN2 (L : List Rw) (inn : Nat → Nat) (to n : Nat) : St := match L[n]? with
  | some r => stI inn to r
  | none => .get 0 (false, 0)
def sps (L : List Rw) : Ip → List Nat → List St
  | _, [] => []
  | st, n :: r => stN2 L st.2 ((frS (ownL L) st n).headD 0) n :: sps L (smS (ownL L) st n) r
theorem sps_snoc (L : List Rw) : ∀ (l : List Nat) (st : Ip) (n : Nat), sps L st (l ++ [n]) = sps L st l ++ [stN2 L (smL (ownL L) st l).2 ((frS (ownL L) (smL (ownL L) st l) n).headD 0) n]
  | [], _, _ => rfl
  | m :: l, st, n => by
    show _ :: sps L (smS (ownL L) st m) (l ++ [n]) = _
    rw [sps_snoc L l]; rfl
def gvL (inn : Nat → Nat) : Lt → List Rf → St
  | .cel _ _, a :: b :: _ => .store (srI inn a) (srI inn b)
  | .put true s _, a :: _ => .tell s (srI inn a)
  | .put false s _, a :: _ => .put s (srI inn a)
  | _, _ => .get 0 (false, 0)
abbrev ip0 (many : Nat) : Ip := (List.range many, fun _ => 0)
def endI (ss : List Lt) (many : Nat) : Ip := smL (ownL (rowsS ss)) (ip0 many) (ordS ss)
def allS (ss : List Lt) (many : Nat) : List St := sps (rowsS ss) (ip0 many) (ordS ss) ++ (ss.zip (roots ss 0)).map fun p => gvL (endI ss many).2 p.1 p.2
theorem sm0 (many : Nat) : SmOk many [] (ip0 many) := List.Perm.refl _
/-- all along an order -/
theorem sm_all {own : Nat → List Nat} {many : Nat} {dn r : List Nat} (h : OkS own [] (dn ++ r)) (hm : mxS own [] (dn ++ r) ≤ many) : OkS own (lvS own [] dn) r ∧ SmOk many (lvS own [] dn) (smL own (ip0 many) dn) ∧ mxS own (lvS own [] dn) r ≤ many := by
  have key : ∀ (dn r lv : List Nat) (st : Ip), OkS own lv (dn ++ r) → SmOk many lv st → mxS own lv (dn ++ r) ≤ many → OkS own (lvS own lv dn) r ∧ SmOk many (lvS own lv dn) (smL own st dn) ∧ mxS own (lvS own lv dn) r ≤ many := by
    intro dn
    induction dn with
    | nil => intro r lv st h1 h2 h3; exact ⟨h1, h2, h3⟩
    | cons n dn ih =>
      intro r lv st h1 h2 h3
      obtain ⟨to, tl, e1, e2, e3, e4, e5⟩ := sm_step h1 h2 h3
      exact ih r _ _ h1.2.2.2 e4 (Nat.le_trans (Nat.le_max_right _ _) h3)
  exact key dn r [] (ip0 many) h (sm0 many) hm

/-- sets with where their parts begin -/
def wb : List Lt → Nat → List (Lt × Nat)
  | [], _ => []
  | s :: r, b => (s, b) :: wb r (b + cntL s)
theorem zip_wb : ∀ (ss : List Lt) (b : Nat), ss.zip (roots ss b) = (wb ss b).map fun p => (p.1, rootL p.1 p.2)
  | [], _ => rfl
  | s :: r, b => by
    show (s, rootL s b) :: r.zip (roots r (b + cntL s)) = (s, rootL s b) :: _
    rw [zip_wb r]
theorem trs_wb : ∀ (ss : List Lt) (b : Nat), trs ss b = (wb ss b).flatMap fun p => treesL p.1 p.2
  | [], _ => rfl
  | s :: r, b => by
    show treesL s b ++ trs r (b + cntL s) = _
    rw [trs_wb r]; rfl
theorem wb_mem : ∀ {ss : List Lt} {b : Nat} {p : Lt × Nat}, p ∈ wb ss b → p.1 ∈ ss
  | [], _, _, h => by cases h
  | s :: r, b, p, h => by
    rcases List.mem_cons.mp h with rfl | h
    · exact List.mem_cons_self
    · exact List.mem_cons_of_mem _ (wb_mem h)
theorem wb_len : ∀ (ss : List Lt) (b : Nat), (wb ss b).length = ss.length
  | [], _ => rfl
  | s :: r, b => by show (wb r _).length + 1 = r.length + 1; rw [wb_len r]
theorem rest_trees (s : Lt) (b : Nat) : restL s = (treesL s b).map fun t => exD t.1 := by cases s <;> rfl
theorem root_trees (s : Lt) (b : Nat) : rtD (rootL s b) = .tup ((treesL s b).map fun t => rfD (rfE t.1 t.2)) := by cases s <;> rfl
theorem trees_dep {s : Lt} {b : Nat} {t : Ex × Nat} (h : t ∈ treesL s b) (hd : stDep s ≤ 3) : dep t.1 ≤ 3 := by
  cases s with
  | cel x y =>
    have hd2 : max (dep x) (dep y) ≤ 3 := hd
    simp only [treesL, List.mem_cons, List.not_mem_nil, or_false] at h
    rcases h with rfl | rfl
    · show dep x ≤ 3; omega
    · show dep y ≤ 3; omega
  | put m l e =>
    simp only [treesL, List.mem_cons, List.not_mem_nil, or_false] at h
    subst h; exact hd
theorem treesL_len (s : Lt) (b : Nat) : (treesL s b).length ≤ 2 := by cases s <;> exact Nat.le_of_ble_eq_true rfl
theorem triG_app : ∀ (l m : List (Ex × Nat)) (i : Nat), triG i (l ++ m) = triG i l ++ triG (i + (triG i l).length) m
  | [], m, i => rfl
  | t :: l, m, i => by
    show (if isC t.1 then triG i (l ++ m) else _ :: triG (i + 1) (l ++ m)) = (if isC t.1 then triG i l else _ :: triG (i + 1) l) ++ triG (i + (if isC t.1 then triG i l else _ :: triG (i + 1) l).length) m
    cases isC t.1 with
    | true => rw [if_pos rfl, if_pos rfl]; exact triG_app l m i
    | false =>
      rw [if_neg Bool.false_ne_true, if_neg Bool.false_ne_true, triG_app l m (i + 1), List.length_cons, List.cons_append, show i + 1 + (triG (i + 1) l).length = i + ((triG (i + 1) l).length + 1) by omega]
theorem triG_len : ∀ (l : List (Ex × Nat)) (i : Nat), (triG i l).length ≤ l.length
  | [], _ => Nat.le_refl _
  | t :: l, i => by
    show (if isC t.1 then triG i l else _ :: triG (i + 1) l).length ≤ l.length + 1
    have h1 := triG_len l i
    have h2 := triG_len l (i + 1)
    cases isC t.1 with
    | true => rw [if_pos rfl]; omega
    | false => rw [if_neg Bool.false_ne_true, List.length_cons]; omega
theorem triG_3 : ∀ (l : List (Ex × Nat)) (i : Nat), ∀ ns ∈ triG i l, ns.length = 3
  | [], _, ns, h => by cases h
  | t :: l, i, ns, h => by
    have h : ns ∈ (if isC t.1 then triG i l else [-(need t.1 : Int), (i : Int), (rnum t : Int)] :: triG (i + 1) l) := h
    cases hc : isC t.1 with
    | true => rw [hc, if_pos rfl] at h; exact triG_3 l i ns h
    | false =>
      rw [hc, if_neg Bool.false_ne_true] at h
      rcases List.mem_cons.mp h with rfl | h
      · rfl
      · exact triG_3 l (i + 1) ns h
theorem flat_len {α : Type} (f : α → List (Ex × Nat)) (h : ∀ x, (f x).length ≤ 2) : ∀ l : List α, (l.flatMap f).length ≤ 2 * l.length
  | [] => Nat.le_refl _
  | x :: l => by
    rw [List.flatMap_cons, List.length_append, List.length_cons]
    have := h x; have := flat_len f h l; omega
/-- needs by numbers -/
def ndF (N : List Nat) : Rf → Nat
  | .k _ => 0
  | .n i => N.getD i 0
def ndR (N : List Nat) : Rw → Nat
  | .get _ => 1 | .ask _ => 1
  | .cell r => max 1 (ndF N r)
  | .two _ a b => nd2 (ndF N a) (ndF N b)
def ndsL : List Rw → List Nat → List Nat
  | [], N => N
  | r :: L, N => ndsL L (N ++ [ndR N r])
theorem ndsL_app : ∀ (L M : List Rw) (N : List Nat), ndsL (L ++ M) N = ndsL M (ndsL L N)
  | [], _, _ => rfl
  | _ :: L, M, _ => ndsL_app L M _
def Nd (N : List Nat) : Ex → Nat → Prop
  | .cel e, b => Nd N e b
  | .op _ x y, b => Nd N x b ∧ Nd N y (b + cnt x) ∧ (isC x = false → N[b + cnt x - 1]? = some (need x)) ∧ (isC y = false → N[b + cnt x + cnt y - 1]? = some (need y))
  | _, _ => True
theorem getD_of {N : List Nat} {i v : Nat} (h : N[i]? = some v) : N.getD i 0 = v := by rw [List.getD_eq_getElem?_getD, h]; rfl
theorem ndF_E {N : List Nat} {e : Ex} {b : Nat} (h : isC e = false → N[b + cnt e - 1]? = some (need e)) : ndF N (rfE e b) = need e := by
  unfold rfE
  cases hc : isC e with
  | true => rw [if_pos rfl, need_c hc]; rfl
  | false => rw [if_neg Bool.false_ne_true]; exact getD_of (h hc)
theorem at_app {N M : List Nat} {i v b : Nat} (hb : N.length = b) (h : M[i]? = some v) : (N ++ M)[b + i]? = some v := by
  rw [List.getElem?_append_right (by omega), hb, Nat.add_sub_cancel_left]; exact h
theorem at_left {N M : List Nat} {i v : Nat} (h : N[i]? = some v) : (N ++ M)[i]? = some v := by
  rw [List.getElem?_append_left (List.getElem?_eq_some_iff.mp h).1]; exact h
theorem nds_E : ∀ (e : Ex) (b : Nat) (N : List Nat), N.length = b → ∃ M, ndsL (rwE e b) N = N ++ M ∧ M.length = cnt e ∧ (isC e = false → (N ++ M)[b + cnt e - 1]? = some (need e)) ∧ ∀ tl, Nd (N ++ M ++ tl) e b
  | .num _, b, N, _ => ⟨[], (List.append_nil _).symm, rfl, (fun h => by cases h), fun _ => trivial⟩
  | .fld _, b, N, _ => ⟨[], (List.append_nil _).symm, rfl, (fun h => by cases h), fun _ => trivial⟩
  | .plc s, b, N, hb => ⟨[1], rfl, rfl, fun _ => at_app (M := [1]) (i := 0) (v := 1) hb rfl, fun _ => trivial⟩
  | .mrk s, b, N, hb => ⟨[1], rfl, rfl, fun _ => at_app (M := [1]) (i := 0) (v := 1) hb rfl, fun _ => trivial⟩
  | .cel e, b, N, hb => by
    obtain ⟨M, h1, h2, h3, h4⟩ := nds_E e b N hb
    refine ⟨M ++ [max 1 (need e)], ?_, by rw [List.length_append, h2]; rfl, fun _ => ?_, fun tl => ?_⟩
    · show ndsL (rwE e b ++ [.cell (rfE e b)]) N = _
      rw [ndsL_app, h1]
      show N ++ M ++ [max 1 (ndF (N ++ M) (rfE e b))] = _
      rw [ndF_E h3, List.append_assoc]
    · rw [← List.append_assoc]
      exact at_app (N := N ++ M) (M := [max 1 (need e)]) (b := b + cnt e) (i := 0) (by rw [List.length_append, hb, h2]) rfl
    · rw [← List.append_assoc, List.append_assoc]; exact h4 _
  | .op o x y, b, N, hb => by
    obtain ⟨M, h1, h2, h3, h4⟩ := nds_E x b N hb
    obtain ⟨M', j1, j2, j3, j4⟩ := nds_E y (b + cnt x) (N ++ M) (by rw [List.length_append, hb, h2])
    have hx : isC x = false → (N ++ M ++ M')[b + cnt x - 1]? = some (need x) := fun h => at_left (h3 h)
    refine ⟨M ++ M' ++ [nd2 (need x) (need y)], ?_, by rw [List.length_append, List.length_append, h2, j2]; rfl, fun _ => ?_, fun tl => ?_⟩
    · show ndsL (rwE x b ++ (rwE y (b + cnt x) ++ [.two o (rfE x b) (rfE y (b + cnt x))])) N = _
      rw [ndsL_app, ndsL_app, h1, j1]
      show N ++ M ++ M' ++ [nd2 (ndF (N ++ M ++ M') (rfE x b)) (ndF (N ++ M ++ M') (rfE y (b + cnt x)))] = _
      rw [ndF_E hx, ndF_E j3]; simp only [List.append_assoc]
    · rw [show N ++ (M ++ M' ++ [nd2 (need x) (need y)]) = N ++ M ++ M' ++ [nd2 (need x) (need y)] by simp only [List.append_assoc]]
      rw [show b + cnt (.op o x y) - 1 = b + cnt x + cnt y + 0 by show b + (cnt x + cnt y + 1) - 1 = _; omega]
      exact at_app (N := N ++ M ++ M') (M := [nd2 (need x) (need y)]) (b := b + cnt x + cnt y) (i := 0) (by rw [List.length_append, List.length_append, hb, h2, j2]) rfl
    · rw [show N ++ (M ++ M' ++ [nd2 (need x) (need y)]) ++ tl = N ++ M ++ M' ++ ([nd2 (need x) (need y)] ++ tl) by simp only [List.append_assoc]]
      refine ⟨?_, j4 _, fun h => at_left (hx h), fun h => at_left (j3 h)⟩
      rw [show N ++ M ++ M' ++ ([nd2 (need x) (need y)] ++ tl) = N ++ M ++ (M' ++ ([nd2 (need x) (need y)] ++ tl)) by simp only [List.append_assoc]]
      exact h4 _
theorem nds_T : ∀ (ts : List (Ex × Nat)) (b : Nat) (N : List Nat), Row b ts → N.length = b → ∃ M, ndsL (rwT ts) N = N ++ M ∧ ∀ tl, ∀ t ∈ ts, Nd (N ++ M ++ tl) t.1 t.2
  | [], b, N, _, _ => ⟨[], (List.append_nil _).symm, fun _ t h => by cases h⟩
  | u :: ts, b, N, h, hb => by
    obtain ⟨h1, h2⟩ := h
    obtain ⟨M, k1, k2, k3, k4⟩ := nds_E u.1 u.2 N (by rw [hb, h1])
    obtain ⟨M', j1, j2⟩ := nds_T ts (b + cnt u.1) (N ++ M) h2 (by rw [List.length_append, hb, k2])
    refine ⟨M ++ M', ?_, fun tl t ht => ?_⟩
    · show ndsL (rwE u.1 u.2 ++ rwT ts) N = _
      rw [ndsL_app, k1, j1, List.append_assoc]
    · rcases List.mem_cons.mp ht with rfl | ht
      · rw [show N ++ (M ++ M') ++ tl = N ++ M ++ (M' ++ tl) by simp only [List.append_assoc]]; exact k4 _
      · rw [show N ++ (M ++ M') ++ tl = N ++ M ++ M' ++ tl by simp only [List.append_assoc]]; exact j2 tl t ht
def ndS (ss : List Lt) : List Nat := ndsL (rowsS ss) []
theorem ndS_at (ss : List Lt) : ∀ t ∈ trs ss 0, Nd (ndS ss) t.1 t.2 := fun t ht => by
  obtain ⟨M, h1, h2⟩ := nds_T (trs ss 0) 0 [] (trs_row ss 0) rfl
  have := h2 [] t ht
  rw [List.append_nil] at this
  unfold ndS rowsS
  rw [h1]; exact this
/-- rows where they are told -/
def AtR (L : List Rw) (e : Ex) (b : Nat) : Prop := ∀ (i : Nat) (r : Rw), (rwE e b)[i]? = some r → L[b + i]? = some r
theorem AtR.cel {L : List Rw} {e : Ex} {b : Nat} (h : AtR L (.cel e) b) : AtR L e b ∧ L[b + cnt e]? = some (.cell (rfE e b)) := by
  refine ⟨fun i r hi => h i r ?_, h (cnt e) (.cell (rfE e b)) ?_⟩
  · show (rwE e b ++ [_])[i]? = _
    rw [List.getElem?_append_left (List.getElem?_eq_some_iff.mp hi).1]; exact hi
  · show (rwE e b ++ [_])[cnt e]? = _
    rw [← rwE_len e b, List.getElem?_append_right (Nat.le_refl _), Nat.sub_self]; rfl
theorem AtR.op {L : List Rw} {o : Op} {x y : Ex} {b : Nat} (h : AtR L (.op o x y) b) : AtR L x b ∧ AtR L y (b + cnt x) ∧ L[b + cnt x + cnt y]? = some (.two o (rfE x b) (rfE y (b + cnt x))) := by
  refine ⟨fun i r hi => h i r ?_, fun i r hi => ?_, ?_⟩
  · show (rwE x b ++ (_ ++ [_]))[i]? = _
    rw [List.getElem?_append_left (List.getElem?_eq_some_iff.mp hi).1]; exact hi
  · have := h (cnt x + i) r (by
      show (rwE x b ++ (rwE y (b + cnt x) ++ [_]))[cnt x + i]? = _
      rw [List.getElem?_append_right (by rw [rwE_len]; omega), rwE_len, Nat.add_sub_cancel_left, List.getElem?_append_left (List.getElem?_eq_some_iff.mp hi).1]; exact hi)
    rw [← Nat.add_assoc] at this; exact this
  · have := h (cnt x + cnt y) (.two o (rfE x b) (rfE y (b + cnt x))) (by
      show (rwE x b ++ (rwE y (b + cnt x) ++ [_]))[cnt x + cnt y]? = _
      rw [List.getElem?_append_right (by rw [rwE_len]; omega), rwE_len, Nat.add_sub_cancel_left, List.getElem?_append_right (by rw [rwE_len]; omega), rwE_len, Nat.sub_self]; rfl)
    rw [← Nat.add_assoc] at this; exact this
theorem rowR_at : ∀ {ts : List (Ex × Nat)} {b : Nat} {pre : List Rw}, Row b ts → pre.length = b → ∀ t ∈ ts, AtR (pre ++ rwT ts) t.1 t.2
  | [], _, _, _, _, t, ht => by cases ht
  | u :: ts, b, pre, h, hp, t, ht => by
    have e : pre ++ rwT (u :: ts) = (pre ++ rwE u.1 u.2) ++ rwT ts := by rw [List.append_assoc]; rfl
    rcases List.mem_cons.mp ht with rfl | ht
    · intro i r hi
      have hl := (List.getElem?_eq_some_iff.mp hi).1
      have hb := h.1
      subst hb
      rw [e, List.getElem?_append_left (by rw [List.length_append, hp]; omega), List.getElem?_append_right (by rw [hp]; omega), hp, Nat.add_sub_cancel_left, hi]
    · rw [e]
      exact rowR_at h.2 (by rw [List.length_append, hp, rwE_len]) t ht
theorem trsR_at (ss : List Lt) : ∀ t ∈ trs ss 0, AtR (rowsS ss) t.1 t.2 := fun t ht => rowR_at (pre := []) (trs_row ss 0) rfl t ht
theorem cnt_nds : ∀ e : Ex, cnt e ≤ nds e
  | .num _ => Nat.zero_le _
  | .fld _ => Nat.zero_le _
  | .plc _ => Nat.le_refl _
  | .mrk _ => Nat.le_refl _
  | .cel e => by show cnt e + 1 ≤ nds e + 1; have := cnt_nds e; omega
  | .op _ a b => by show cnt a + cnt b + 1 ≤ nds a + nds b + 1; have := cnt_nds a; have := cnt_nds b; omega
theorem ordE_len : ∀ (e : Ex) (b : Nat), (ordE e b).length = cnt e
  | .num _, _ => rfl
  | .fld _, _ => rfl
  | .plc _, _ => rfl
  | .mrk _, _ => rfl
  | .cel e, b => by show (ordE e b ++ [_]).length = cnt e + 1; rw [List.length_append, ordE_len e b]; rfl
  | .op _ x y, b => by
    show ((if need x < need y then ordE y (b + cnt x) ++ ordE x b else ordE x b ++ ordE y (b + cnt x)) ++ [_]).length = cnt x + cnt y + 1
    have h1 := ordE_len x b
    have h2 := ordE_len y (b + cnt x)
    split <;> rw [List.length_append, List.length_append, h1, h2, List.length_singleton] <;> omega

/-! ### Parts.__init__ -/
def spParts_init (cc : Nat → Addr) : Sp2 := fun ds μ Q _ => ∃ (q : Addr), ds = [.adr q] ∧ μ q = some (.ins (cc 0) []) ∧ ∀ p, μ p = none → Q .non (mup (mup μ p (.lst [])) q (.ins (cc 0) [(Str.ofString "rows", .adr p)]))
theorem DParts_init (T : Tt K mg cc) : Dm P w K mg base (cc 0) "__init__" 1 ["self"] (spParts_init cc) := by
  refine T.xParts_init.ok scParts_init (by rintro ds μ Q E ⟨q, rfl, hq, h⟩ <;> rfl) (fun f cdv A outer s H E hr => ⟨_, _, (b_one (s_putF T.k_Parts.cl T.n_Parts_rows (e_pv 0 (pv 0)) (e_lst a_nil))), ?_⟩)
  rintro ds μ Q E ⟨q, rfl, hq, h⟩
  walk_at "y"
  intro p hp
  walk_at "y"
  exact RtC.same (h p hp)
/-! ### Parts.part_in -/
def spParts_part_in (cc : Nat → Addr) (n : Nat) : Sp2 := fun ds μ Q _ => ∃ (e : Ex) (q p : Addr) (ps : List D), ds = [.adr q, exD e] ∧ dep e ≤ n ∧ μ q = some (.ins (cc 0) [(Str.ofString "rows", .adr p)]) ∧ μ p = some (.lst ps) ∧ ps.length + nds e ≤ 1000 ∧ Q (prt e ps).1 (mup μ p (.lst (prt e ps).2))
def spParts_part_inp (cc : Nat → Addr) : Nat → Sp2
  | 0 => fun _ _ _ _ => False
  | n + 1 => spParts_part_in cc n
theorem EParts_part_in (T : Tt K mg cc) (n j : Nat) (hj : j ≤ n + 1) (DParts_part_in : Dm P w K mg base (cc 0) "part_in" j ["self", "e"] (spParts_part_inp cc n)) : Dm P w K mg base (cc 0) "part_in" (n + 2) ["self", "e"] (spParts_part_in cc n) := by
  refine T.xParts_part_in.ok (k := n + 1) scParts_part_in (by rintro ds μ Q E ⟨e, q, p, ps, rfl, hd, hq, hp, hl, h⟩ <;> rfl) (fun f cdv A outer s H E hr => ⟨_, _, (b_cons (s_if (t_w (k_or (t_eq hr (e_ix (e_pv 1 (pv 1)) e_int (fun _ _ => rfl)) e_str) (k_or1 (t_eq hr (e_ix (e_pv 1 (pv 1)) e_int (fun _ _ => rfl)) e_str))))
      (b_one (s_ret (e_pv 1 (pv 1))))
      b_nil)
      (b_cons (s_if (t_eq hr (e_ix (e_pv 1 (pv 1)) e_int (fun _ _ => rfl)) e_str)
      (b_one (s_expr (e_app (e_fld T.k_Parts.cl T.n_Parts_rows (e_pv 0 (pv 0))) (a_cons (e_tup (a_cons e_str (a_cons (e_ix (e_pv 1 (pv 1)) e_int (fun _ _ => rfl)) a_nil))) a_nil))))
      (b_one (s_if (t_eq hr (e_ix (e_pv 1 (pv 1)) e_int (fun _ _ => rfl)) e_str)
      (b_one (s_expr (e_app (e_fld T.k_Parts.cl T.n_Parts_rows (e_pv 0 (pv 0))) (a_cons (e_tup (a_cons e_str (a_cons (e_ix (e_pv 1 (pv 1)) e_int (fun _ _ => rfl)) a_nil))) a_nil))))
      (b_cons (s_setLcF (i := 2) (own := [("one", 3)]) rfl scParts_part_in.nd rfl rfl (sw_true rfl rfl rfl (by decide +kernel)) (j_t (e_fzL (e_slice (e_pv 1 (pv 1)) (o_some e_int) o_none))) (blkOk_by (N := nParts_part_in) (sc := defScope sParts_part_in) (by decide +kernel)) (fun _ _ _ _ _ => ⟨_, (g_nm (pg_name (i := 3) scParts_part_in.nd rfl (by first | exact Or.inl rfl | exact Or.inr rfl)))⟩) (fun _ _ _ _ _ => ⟨_, ts_none⟩) (fun _ _ _ _ _ => ⟨_, (e_meth DParts_part_in hr T.k_Parts.cl (e_pv 0 (pv 0)) (a_cons (e_pv 3 (pv 3)) a_nil) (hjk := hj))⟩))
      (b_one (s_expr (e_app (e_fld T.k_Parts.cl T.n_Parts_rows (e_pv 0 (pv 0))) (a_cons (e_tupOf (by rfl) T.b_tuple (a_cons (e_fzL (e_add (e_fz (e_lst (a_cons (e_ix (e_pv 1 (pv 1)) e_int (fun _ _ => rfl)) a_nil))) (e_pv 2 (pv 2)))) a_nil)) a_nil))))))))
      (b_one (s_ret (e_sub (e_len (by rfl) T.b_len (a_cons (e_fld T.k_Parts.cl T.n_Parts_rows (e_pv 0 (pv 0))) a_nil)) e_int))))), ?_⟩)
  rintro ds μ Q E ⟨e, q, p, ps, rfl, hd, hq, hp, hl, h⟩
  have hpq : p ≠ q := fun z => by rw [z, hq] at hp; cases hp
  cases e with
  | num k =>
    rw [show (prt (.num k) ps).2 = ps from rfl, mup_self hp] at h
    rw [exD_num]
    walk_at "y"
    exact RtC.same h
  | fld k =>
    rw [show (prt (.fld k) ps).2 = ps from rfl, mup_self hp] at h
    rw [exD_fld]
    walk_at "y"
    exact RtC.same h
  | plc s =>
    have hl2 : ps.length + 1 ≤ 1000 := hl
    rw [exD_plc]
    walk_at "y"
    rw [len_snoc]
    exact RtC.same h
  | mrk s =>
    have hl2 : ps.length + 1 ≤ 1000 := hl
    rw [exD_mrk]
    walk_at "y"
    rw [len_snoc]
    exact RtC.same h
  | cel e =>
    have hl2 : ps.length + (nds e + 1) ≤ 1000 := hl
    rw [exD_cel]
    have pl := prt_len e ps
    walk_at "yc"
    have hd2 : dep e + 1 ≤ n := hd
    cases n with
    | zero => omega
    | succ n =>
      refine ⟨e, q, p, ps, rfl, by omega, hq, hp, by omega, ?_⟩
      walk_at "yc"
      rw [len_snoc, mup_mup]
      exact RtC.same h
  | op o a b =>
    have hl2 : ps.length + (nds a + nds b + 1) ≤ 1000 := hl
    obtain ⟨o1, o2, o3, o4, o5, o6, o7⟩ := op_no o
    have pl := prt_len a ps
    have pl2 := prt_len b (prt a ps).2
    rw [exD_op]
    walk_at "yc"
    have hd2 : max (dep a) (dep b) + 1 ≤ n := hd
    cases n with
    | zero => omega
    | succ n =>
      refine ⟨a, q, p, ps, rfl, by omega, hq, hp, by omega, ?_⟩
      walk_at "yc"
      refine ⟨b, q, p, (prt a ps).2, rfl, by omega, by walk_at "mu", by walk_at "mu", by omega, ?_⟩
      walk_at "yc"
      rw [len_snoc, mup_mup, mup_mup]
      exact RtC.same h
theorem DParts_part_in (T : Tt K mg cc) : ∀ n, Dm P w K mg base (cc 0) "part_in" (n + 2) ["self", "e"] (spParts_part_in cc n)
  | 0 => EParts_part_in T 0 1 (by omega) (T.xParts_part_in.never scParts_part_in)
  | n + 1 => EParts_part_in T (n + 1) (n + 2) (by omega) (DParts_part_in T n)
/-! ### rests_of -/
def sprests_of : Sp2 := fun ds μ Q _ => ∃ s : Lt, ds = [ltD s] ∧ Q (.lst (restL s)) μ
theorem Drests_of (T : Tt K mg cc) : Df P w K mg base "rests_of" 1 ["one"] (sprests_of) := by
  refine T.xrests_of.ok scrests_of (by rintro ds μ Q E ⟨s, rfl, h⟩ <;> rfl) (fun f cdv A outer s H E hr => ⟨_, _, (b_cons (s_if (t_eq hr (e_ix (e_pv 0 (pv 0)) e_int (fun _ _ => rfl)) e_str)
      (b_one (s_ret (e_fz (e_lst (a_cons (e_ix (e_pv 0 (pv 0)) e_int (fun _ _ => rfl)) (a_cons (e_ix (e_pv 0 (pv 0)) e_int (fun _ _ => rfl)) a_nil))))))
      b_nil)
      (b_one (s_ret (e_fz (e_lst (a_cons (e_ix (e_pv 0 (pv 0)) e_int (fun _ _ => rfl)) a_nil)))))), ?_⟩)
  rintro ds μ Q E ⟨s, rfl, h⟩
  cases s with
  | cel a b =>
    rw [stD_cel]
    walk_at "y"
    exact RtC.same h
  | put m s e =>
    have hm : ¬ (if m then Str.ofString "mark" else Str.ofString "place") = Str.ofString "cell" := by cases m <;> decide +kernel
    rw [stD_put]
    walk_at "y"
    exact RtC.same h
/-! ### parts_and_roots -/
def spparts_and_roots (cc : Nat → Addr) : Sp2 := fun ds μ Q _ => ∃ ss : List Lt, ds = [.tup (ss.map ltD)] ∧ ss.length ≤ 20 ∧ (∀ s ∈ ss, stDep s ≤ 3) ∧ ∀ p1 p2 μ', μ p1 = none → μ p2 = none → p1 ≠ p2 → Sub μ μ' → μ' p1 = some (.lst (rts ss).1) → μ' p2 = some (.lst (rts ss).2) → Q (.tup [.adr p1, .adr p2]) μ'
theorem Dparts_and_roots (T : Tt K mg cc) : Df P w K mg base "parts_and_roots" 6 ["sets"] (spparts_and_roots cc) := by
  have DParts_init := DParts_init (P := P) (w := w) (base := base) T
  have DParts_part_in := DParts_part_in (P := P) (w := w) (base := base) T 3
  have Drests_of := Drests_of (P := P) (w := w) (base := base) T
  refine T.xparts_and_roots.ok scparts_and_roots (by rintro ds μ Q E ⟨ss, rfl, hn, hd, h⟩ <;> rfl) (fun f cdv A outer s H E hr => ⟨_, _, (b_cons (s_set (i := 1) (e_make0 T.k_Parts DParts_init hr (by rfl)) scparts_and_roots.nd rfl (by first | exact Or.inl rfl | exact Or.inr rfl))
      (b_cons (s_set (i := 2) (e_lst a_nil) scparts_and_roots.nd rfl (by first | exact Or.inl rfl | exact Or.inr rfl))
      (b_cons (s_for PassesOwn.never rfl (j_t (e_pv 0 (pv 0))) (g_nm (pg_name (i := 3) scparts_and_roots.nd rfl (by first | exact Or.inl rfl | exact Or.inr rfl)))
      (b_one (s_expr (e_app (e_pv 2 (pv 2)) (a_cons (e_tupOf (by rfl) T.b_tuple (a_cons (e_fz (e_lc (own := [("e", 4)]) rfl scparts_and_roots.nd (j_l (e_call Drests_of hr (by rfl) (a_cons (e_pv 3 (pv 3)) a_nil))) (blkOk_by (N := nparts_and_roots) (sc := defScope sparts_and_roots) (by decide +kernel)) (fun _ _ _ _ _ => ⟨_, (g_nm (pg_name (i := 4) scparts_and_roots.nd rfl (by first | exact Or.inl rfl | exact Or.inr rfl)))⟩) (fun _ _ _ _ _ => ⟨_, ts_none⟩) (fun _ _ _ _ _ => ⟨_, (e_meth DParts_part_in hr T.k_Parts.cl (e_pv 1 (pv 1)) (a_cons (e_pv 4 (pv 4)) a_nil))⟩))) a_nil)) a_nil)))))
      (b_one (s_ret (e_tup (a_cons (e_fld T.k_Parts.cl T.n_Parts_rows (e_pv 1 (pv 1))) (a_cons (e_pv 2 (pv 2)) a_nil)))))))), ?_⟩)
  rintro ds μ Q E ⟨ss, rfl, hn, hd, h⟩
  walk_at "y"
  intro q hq
  refine ⟨q, rfl, mup_same, fun p hp => ⟨rfl, ?_⟩⟩
  have npq : p ≠ q := ne_of_mup hp
  have hp0 : μ p = none := none_sub (Sub.new hq) hp
  walk_at "y"
  intro p2 hp2
  have np2q : p2 ≠ q := fun z => by rw [z, mup_same] at hp2; cases hp2
  have np2p : p2 ≠ p := fun z => by rw [z, mup_ne npq, mup_same] at hp2; cases hp2
  have hp20 : μ p2 = none := by rw [mup_ne np2q, mup_ne np2p, mup_ne np2q] at hp2; exact hp2
  walk_at "y"
  refine Y.Cl.at (ρ' := start2 nparts_and_roots [.tup (ss.map ltD), .adr q, .adr p2]) (by walk_at "less") Sub.refl (w_turns (fun xs ρ μ' => ∃ dn rs : List Lt, ss = dn ++ rs ∧ xs = rs.map ltD ∧ ρ = start2 nparts_and_roots [.tup (ss.map ltD), .adr q, .adr p2] ∧ μ' q = some (.ins (cc 0) [(Str.ofString "rows", .adr p)]) ∧ μ' p = some (.lst (rts dn).1) ∧ μ' p2 = some (.lst (rts dn).2) ∧ Sub μ μ') (fun _ _ _ _ => trivial) ?_ ?_ _ _ _ ⟨[], ss, rfl, rfl, rfl, by walk_at "mu", by walk_at "mu", by walk_at "mu", by walk_at "sub"⟩)
  · rintro x xs _ μ1 ⟨dn, rs, hss, hx, rfl, e1, e2, e3, u⟩ N hN
    cases rs with
    | nil => cases hx
    | cons s rs =>
      injection hx with h3 h4
      subst h3
      have hs : stDep s ≤ 3 := hd s (by rw [hss]; exact List.mem_append_right _ List.mem_cons_self)
      have hl : (rts dn).1.length ≤ 0 + 30 * dn.length ∧ (rts dn).2.length = 0 + dn.length := rts_len dn ([], []) fun x hx => hd x (by rw [hss]; exact List.mem_append_left _ hx)
      have hl2 : dn.length + 1 ≤ 20 := by rw [hss, List.length_append, List.length_cons] at hn; omega
      have next : ∀ μ2, μ2 q = some (.ins (cc 0) [(Str.ofString "rows", .adr p)]) → μ2 p = some (.lst (stp (rts dn) s).1) → μ2 p2 = some (.lst (stp (rts dn) s).2) → Sub μ μ2 → N (start2 nparts_and_roots [.tup (ss.map ltD), .adr q, .adr p2]) μ2 := fun μ2 a1 a2 a3 a4 =>
        hN _ _ ⟨dn ++ [s], rs, by rw [hss, List.append_assoc]; rfl, h4, rfl, a1, by rw [rts_snoc]; exact a2, by rw [rts_snoc]; exact a3, a4⟩
      walk_at "y"
      refine ⟨s, rfl, ?_⟩
      cases s with
      | cel a b =>
        have hs' : max (dep a) (dep b) ≤ 3 := hs
        have n1 := nds15 (e := a) (by omega)
        have n2 := nds15 (e := b) (by omega)
        have h3 := prt_len a (rts dn).1
        have h4 := prt_len b (prt a (rts dn).1).2
        rw [show restL (.cel a b) = [exD a, exD b] from rfl]
        walk_at "yc"
        refine ⟨a, q, p, _, rfl, by omega, by walk_at "mu", by walk_at "mu", by omega, ?_⟩
        walk_at "yc"
        refine ⟨b, q, p, _, rfl, by omega, by walk_at "mu", by walk_at "mu", by omega, ?_⟩
        walk_at "yc"
        exact Y.Cl.at (by walk_at "less") Sub.refl (next _ (by walk_at "mu") (by walk_at "mu") (by walk_at "mu") (by walk_at "sub"))
      | put m s e =>
        have n1 := nds15 (e := e) hs
        have h3 := prt_len e (rts dn).1
        rw [show restL (.put m s e) = [exD e] from rfl]
        walk_at "yc"
        refine ⟨e, q, p, _, rfl, hs, by walk_at "mu", by walk_at "mu", by omega, ?_⟩
        walk_at "yc"
        exact Y.Cl.at (by walk_at "less") Sub.refl (next _ (by walk_at "mu") (by walk_at "mu") (by walk_at "mu") (by walk_at "sub"))
  · rintro _ μ1 ⟨dn, rs, hss, hx, rfl, e1, e2, e3, u⟩
    obtain rfl : rs = [] := by cases rs with | nil => rfl | cons _ _ => cases hx
    rw [List.append_nil] at hss
    subst hss
    walk_at "y"
    exact RtC.same (h p p2 _ hp0 hp20 np2p.symm u e2 e3)
/-! ### parts_of -/
def spparts_of : Sp2 := fun ds μ Q _ => ∃ ss : List Lt, ds = [.tup (ss.map ltD)] ∧ ss.length ≤ 20 ∧ (∀ s ∈ ss, stDep s ≤ 3) ∧ ∀ p μ', μ p = none → Sub μ μ' → μ' p = some (.lst (rts ss).1) → Q (.adr p) μ'
theorem Dparts_of (T : Tt K mg cc) : Df P w K mg base "parts_of" 7 ["sets"] (spparts_of) := by
  have Dparts_and_roots := Dparts_and_roots (P := P) (w := w) (base := base) T
  refine T.xparts_of.ok scparts_of (by rintro ds μ Q E ⟨ss, rfl, hn, hd, h⟩ <;> rfl) (fun f cdv A outer s H E hr => ⟨_, _, (b_cons (s_asg (e_call Dparts_and_roots hr (by rfl) (a_cons (e_pv 0 (pv 0)) a_nil)) (g_un (n := 2) rfl (gs_cons (g_nm (pg_name (i := 1) scparts_of.nd rfl (by first | exact Or.inl rfl | exact Or.inr rfl))) (gs_cons (g_nm (pg_name (i := 2) scparts_of.nd rfl (by first | exact Or.inl rfl | exact Or.inr rfl))) gs_nil))))
      (b_one (s_ret (e_pv 1 (pv 1))))), ?_⟩)
  rintro ds μ Q E ⟨ss, rfl, hn, hd, h⟩
  walk_at "y"
  refine ⟨ss, rfl, hn, hd, fun p1 p2 μ' n1 n2 ne u e1 e2 => ?_⟩
  walk_at "y"
  exact RtC.same (h _ _ n1 u e1)
/-! ### roots_of -/
def sproots_of : Sp2 := fun ds μ Q _ => ∃ ss : List Lt, ds = [.tup (ss.map ltD)] ∧ ss.length ≤ 20 ∧ (∀ s ∈ ss, stDep s ≤ 3) ∧ ∀ p μ', μ p = none → Sub μ μ' → μ' p = some (.lst (rts ss).2) → Q (.adr p) μ'
theorem Droots_of (T : Tt K mg cc) : Df P w K mg base "roots_of" 7 ["sets"] (sproots_of) := by
  have Dparts_and_roots := Dparts_and_roots (P := P) (w := w) (base := base) T
  refine T.xroots_of.ok scroots_of (by rintro ds μ Q E ⟨ss, rfl, hn, hd, h⟩ <;> rfl) (fun f cdv A outer s H E hr => ⟨_, _, (b_cons (s_asg (e_call Dparts_and_roots hr (by rfl) (a_cons (e_pv 0 (pv 0)) a_nil)) (g_un (n := 2) rfl (gs_cons (g_nm (pg_name (i := 1) scroots_of.nd rfl (by first | exact Or.inl rfl | exact Or.inr rfl))) (gs_cons (g_nm (pg_name (i := 2) scroots_of.nd rfl (by first | exact Or.inl rfl | exact Or.inr rfl))) gs_nil))))
      (b_one (s_ret (e_pv 2 (pv 2))))), ?_⟩)
  rintro ds μ Q E ⟨ss, rfl, hn, hd, h⟩
  walk_at "y"
  refine ⟨ss, rfl, hn, hd, fun p1 p2 μ' n1 n2 ne u e1 e2 => ?_⟩
  walk_at "y"
  exact RtC.same (h _ _ n2 u e2)

abbrev natD (l : List Nat) : List D := l.map fun i : Nat => D.int (i : Int)
/-! ### own_parts -/
def spown_parts : Sp2 := fun ds μ Q _ => ∃ r, ds = [rwD r] ∧ Q (.lst (natD (ownR r))) μ
theorem Down_parts (T : Tt K mg cc) : Df P w K mg base "own_parts" 1 ["part"] (spown_parts) := by
  refine T.xown_parts.ok scown_parts (by rintro ds μ Q E ⟨r, rfl, q⟩ <;> rfl) (fun f cdv A outer s H E hr => ⟨_, _, (b_cons (s_if (t_w (k_or (t_eq hr (e_ix (e_pv 0 (pv 0)) e_int (fun _ _ => rfl)) e_str) (k_or1 (t_eq hr (e_ix (e_pv 0 (pv 0)) e_int (fun _ _ => rfl)) e_str))))
      (b_one (s_ret (e_fz (e_lst a_nil))))
      b_nil)
      (b_one (s_ret (e_fz (e_lc (own := [("one", 1)]) rfl scown_parts.nd (j_t (e_fzL (e_slice (e_pv 0 (pv 0)) (o_some e_int) o_none))) (blkOk_by (N := nown_parts) (sc := defScope sown_parts) (by decide +kernel)) (fun _ _ _ _ _ => ⟨_, (g_nm (pg_name (i := 1) scown_parts.nd rfl (by first | exact Or.inl rfl | exact Or.inr rfl)))⟩) (fun _ _ _ _ _ => ⟨_, (ts_one (t_val (e_isi (by rfl) T.b_isinstance (a_cons (e_pv 1 (pv 1)) (a_cons (e_bty (n := "int") (by rfl) T.b_int (by decide +kernel)) a_nil)))))⟩) (fun _ _ _ _ _ => ⟨_, (e_pv 1 (pv 1))⟩)))))), ?_⟩)
  rintro ds μ Q E ⟨r, rfl, q⟩
  cases r with
  | get s =>
    unfold rwD
    walk_at "yc"
    exact RtC.same q
  | ask s =>
    unfold rwD
    walk_at "yc"
    exact RtC.same q
  | cell r =>
    unfold rwD
    cases r with
    | k c =>
      unfold rfD
      walk_at "yc"
      exact RtC.same q
    | n i =>
      unfold rfD
      walk_at "yc"
      exact RtC.same q
  | two o a b =>
    obtain ⟨o1, o2, o3, o4, o5, o6, o7⟩ := op_no o
    unfold rwD
    cases a <;> cases b
    all_goals
      unfold rfD
      walk_at "yc"
      exact RtC.same q
/-! ### needs_of -/
def spneeds_of (n : Nat) : Sp2 := fun ds μ Q _ => ∃ e, ds = [exD e] ∧ dep e ≤ n ∧ Q (.int (need e : Nat)) μ
def spneeds_ofp : Nat → Sp2
  | 0 => fun _ _ _ _ => False
  | n + 1 => spneeds_of n
theorem Eneeds_of (T : Tt K mg cc) (n j : Nat) (hj : j ≤ n + 1) (Dneeds_of : Df P w K mg base "needs_of" j ["e"] (spneeds_ofp n)) : Df P w K mg base "needs_of" (n + 2) ["e"] (spneeds_of n) := by
  refine T.xneeds_of.ok (k := n + 1) scneeds_of (by rintro ds μ Q E ⟨e, rfl, hd, q⟩ <;> rfl) (fun f cdv A outer s H E hr => ⟨_, _, (b_cons (s_if (t_w (k_or (t_eq hr (e_ix (e_pv 0 (pv 0)) e_int (fun _ _ => rfl)) e_str) (k_or1 (t_eq hr (e_ix (e_pv 0 (pv 0)) e_int (fun _ _ => rfl)) e_str))))
      (b_one (s_ret e_int))
      b_nil)
      (b_cons (s_if (t_w (k_or (t_eq hr (e_ix (e_pv 0 (pv 0)) e_int (fun _ _ => rfl)) e_str) (k_or1 (t_eq hr (e_ix (e_pv 0 (pv 0)) e_int (fun _ _ => rfl)) e_str))))
      (b_one (s_ret e_int))
      b_nil)
      (b_cons (s_if (t_eq hr (e_ix (e_pv 0 (pv 0)) e_int (fun _ _ => rfl)) e_str)
      (b_one (s_ret (e_max2 (by rfl) T.b_max (a_cons e_int (a_cons (e_call Dneeds_of hr (by rfl) (a_cons (e_ix (e_pv 0 (pv 0)) e_int (fun _ _ => rfl)) a_nil) (hjk := hj)) a_nil)))))
      b_nil)
      (b_cons (s_set (i := 1) (e_call Dneeds_of hr (by rfl) (a_cons (e_ix (e_pv 0 (pv 0)) e_int (fun _ _ => rfl)) a_nil) (hjk := hj)) scneeds_of.nd rfl (by first | exact Or.inl rfl | exact Or.inr rfl))
      (b_cons (s_set (i := 2) (e_call Dneeds_of hr (by rfl) (a_cons (e_ix (e_pv 0 (pv 0)) e_int (fun _ _ => rfl)) a_nil) (hjk := hj)) scneeds_of.nd rfl (by first | exact Or.inl rfl | exact Or.inr rfl))
      (b_cons (s_if (t_w (k_and (t_eq hr (e_pv 1 (pv 1)) (e_pv 2 (pv 2))) (k_and1 (t_gt (e_pv 1 (pv 1)) e_int))))
      (b_one (s_ret (e_add (e_pv 1 (pv 1)) e_int)))
      b_nil)
      (b_one (s_ret (e_max3 (by rfl) T.b_max (a_cons e_int (a_cons (e_pv 1 (pv 1)) (a_cons (e_pv 2 (pv 2)) a_nil)))))))))))), ?_⟩)
  rintro ds μ Q E ⟨e, rfl, hd, q⟩
  cases e with
  | num k =>
    rw [exD_num]
    walk_at "y"
    exact RtC.same q
  | fld k =>
    rw [exD_fld]
    walk_at "y"
    exact RtC.same q
  | plc s =>
    rw [exD_plc]
    walk_at "y"
    exact RtC.same q
  | mrk s =>
    rw [exD_mrk]
    walk_at "y"
    exact RtC.same q
  | cel e =>
    have hd2 : dep e + 1 ≤ n := hd
    rw [exD_cel]
    walk_at "y"
    cases n with
    | zero => omega
    | succ n =>
      refine ⟨e, rfl, by omega, ?_⟩
      walk_at "y"
      have e1 : (if (need e : Int) > 1 then (need e : Int) else 1) = (need (.cel e) : Nat) := by
        show _ = ((max 1 (need e) : Nat) : Int)
        split <;> omega
      rw [e1]
      exact RtC.same q
  | op o a b =>
    have hd2 : max (dep a) (dep b) + 1 ≤ n := hd
    obtain ⟨o1, o2, o3, o4, o5, o6, o7⟩ := op_no o
    rw [exD_op]
    walk_at "y"
    cases n with
    | zero => omega
    | succ n =>
      refine ⟨a, rfl, by omega, ?_⟩
      walk_at "y"
      refine ⟨b, rfl, by omega, ?_⟩
      have e0 : (need (.op o a b) : Nat) = nd2 (need a) (need b) := rfl
      rw [e0] at q
      unfold nd2 at q
      walk_at "y"
      refine br_dec (fun h1 => ?_) (fun h1 => ?_)
      · walk_at "y"
        refine br_dec (fun h2 => ?_) (fun h2 => ?_)
        · walk_at "y"
          rw [if_pos ⟨by omega, by omega⟩] at q
          exact RtC.same q
        · walk_at "y"
          rw [if_neg (fun h => by omega)] at q
          rw [show max (max (1 : Int) (need a : Nat)) (need b : Nat) = ((max 1 (max (need a) (need b)) : Nat) : Int) by omega]
          exact RtC.same q
      · walk_at "y"
        rw [if_neg (fun h => by omega)] at q
        rw [show max (max (1 : Int) (need a : Nat)) (need b : Nat) = ((max 1 (max (need a) (need b)) : Nat) : Int) by omega]
        exact RtC.same q

theorem Dneeds_of (T : Tt K mg cc) : ∀ n, Df P w K mg base "needs_of" (n + 2) ["e"] (spneeds_of n)
  | 0 => Eneeds_of T 0 1 (by omega) (T.xneeds_of.never scneeds_of)
  | n + 1 => Eneeds_of T (n + 1) (n + 2) (by omega) (Dneeds_of T n)
abbrev tF (t : Ex × Nat) : D := rfD (rfE t.1 t.2)
abbrev zF (p : Lt × Nat) : D := .tup [ltD p.1, .tup ((treesL p.1 p.2).map tF)]
abbrev yF (t : Ex × Nat) : D := .tup [exD t.1, tF t]
/-! ### falling -/
def spfalling : Sp2 := fun ds μ Q _ => ∃ ss : List Lt, ds = [.tup (ss.map ltD)] ∧ ss.length ≤ 20 ∧ (∀ s ∈ ss, stDep s ≤ 3) ∧ ∀ μ', Sub μ μ' → Q (.lst ((srtI (triG 0 (trs ss 0))).map tpD)) μ'
theorem Dfalling (T : Tt K mg cc) : Df P w K mg base "falling" 8 ["sets"] (spfalling) := by
  have Drests_of := Drests_of (P := P) (w := w) (base := base) T
  have Droots_of := Droots_of (P := P) (w := w) (base := base) T
  have Dneeds_of := Dneeds_of (P := P) (w := w) (base := base) T 3
  refine T.xfalling.ok scfalling (by rintro ds μ Q E ⟨ss, rfl, hn, hd, q⟩ <;> rfl) (fun f cdv A outer s H E hr => ⟨_, _, (b_cons (s_set (i := 1) (e_call Droots_of hr (by rfl) (a_cons (e_pv 0 (pv 0)) a_nil)) scfalling.nd rfl (by first | exact Or.inl rfl | exact Or.inr rfl))
      (b_cons (s_set (i := 2) (e_lst a_nil) scfalling.nd rfl (by first | exact Or.inl rfl | exact Or.inr rfl))
      (b_cons (s_for PassesOwn.never rfl (j_zTL (by rfl) T.b_zip (a_cons (e_pv 0 (pv 0)) (a_cons (e_pv 1 (pv 1)) a_nil))) (g_un (n := 2) rfl (gs_cons (g_nm (pg_name (i := 3) scfalling.nd rfl (by first | exact Or.inl rfl | exact Or.inr rfl))) (gs_cons (g_nm (pg_name (i := 4) scfalling.nd rfl (by first | exact Or.inl rfl | exact Or.inr rfl))) gs_nil)))
      (b_one (s_for PassesOwn.never rfl (j_zLT (by rfl) T.b_zip (a_cons (e_call Drests_of hr (by rfl) (a_cons (e_pv 3 (pv 3)) a_nil)) (a_cons (e_pv 4 (pv 4)) a_nil))) (g_un (n := 2) rfl (gs_cons (g_nm (pg_name (i := 5) scfalling.nd rfl (by first | exact Or.inl rfl | exact Or.inr rfl))) (gs_cons (g_nm (pg_name (i := 6) scfalling.nd rfl (by first | exact Or.inl rfl | exact Or.inr rfl))) gs_nil)))
      (b_one (s_if (t_gt (e_call Dneeds_of hr (by rfl) (a_cons (e_pv 5 (pv 5)) a_nil)) e_int)
      (b_one (s_expr (e_app (e_pv 2 (pv 2)) (a_cons (e_tup (a_cons (e_sub e_int (e_call Dneeds_of hr (by rfl) (a_cons (e_pv 5 (pv 5)) a_nil))) (a_cons (e_len (by rfl) T.b_len (a_cons (e_pv 2 (pv 2)) a_nil)) (a_cons (e_pv 6 (pv 6)) a_nil)))) a_nil))))
      b_nil)))))
      (b_one (s_ret (e_fz (e_sortI3 hr (by rfl) T.b_sorted (a_cons (e_pv 2 (pv 2)) a_nil)))))))), ?_⟩)
  rintro ds μ Q E ⟨ss, rfl, hn, hd, q⟩
  walk_at "y"
  refine ⟨ss, rfl, hn, hd, fun p1 μ1 n1 u1 e1 => ?_⟩
  walk_at "y"
  intro p2 hp2
  have n2 : μ p2 = none := none_sub u1 hp2
  have ne12 : p1 ≠ p2 := fun z => by rw [← z, e1] at hp2; cases hp2
  walk_at "y"
  have hz : prsD (ss.map ltD) (rts ss).2 = (wb ss 0).map zF := by
    rw [rts_rw]
    show prsD (ss.map ltD) ((roots ss 0).map rtD) = _
    rw [prs_zip, zip_wb, List.map_map]
    refine List.map_congr_left fun p _ => ?_
    show D.tup [ltD p.1, rtD (rootL p.1 p.2)] = D.tup [ltD p.1, D.tup ((treesL p.1 p.2).map tF)]
    rw [root_trees]
  rw [hz]
  refine Y.Cl.at (ρ' := start2 nfalling [.tup (ss.map ltD), .adr p1, .adr p2]) (by walk_at "less") Sub.refl (w_turnsI zF (fun dn ρ μ' => ρ = start2 nfalling [.tup (ss.map ltD), .adr p1, .adr p2] ∧ μ' p1 = some (.lst (rts ss).2) ∧ μ' p2 = some (.lst ((triG 0 (dn.flatMap fun p => treesL p.1 p.2)).map tpD)) ∧ Sub μ μ') (fun _ _ _ h => asL_adr h.2.1) ?_ ?_ _ _ ⟨rfl, by walk_at "mu", by walk_at "mu", by walk_at "sub"⟩)
  · rintro dn ⟨s, b⟩ rs he _ μ3 ⟨rfl, e3, e4, u4⟩ N hN
    have hm : (s, b) ∈ wb ss 0 := by rw [he]; exact List.mem_append_right _ List.mem_cons_self
    have hs := hd s (wb_mem hm)
    have hdn : dn.length + 1 ≤ 20 := by
      have := congrArg List.length he
      rw [wb_len, List.length_append, List.length_cons] at this; omega
    walk_at "y"
    refine ⟨s, rfl, ?_⟩
    walk_at "y"
    rw [rest_trees s b, prs_map]
    show Y.Cl (dTurns _ _ _ _ ((treesL s b).map yF)) _ _
    refine Y.Cl.at (ρ' := start2 nfalling [.tup (ss.map ltD), .adr p1, .adr p2]) (by walk_at "less") Sub.refl (w_turnsI yF (fun dn2 ρ μ' => ρ = start2 nfalling [.tup (ss.map ltD), .adr p1, .adr p2] ∧ μ' p1 = some (.lst (rts ss).2) ∧ μ' p2 = some (.lst ((triG 0 ((dn.flatMap fun p => treesL p.1 p.2) ++ dn2)).map tpD)) ∧ Sub μ μ') (fun _ _ _ h => rfl) ?_ ?_ _ _ ⟨rfl, by walk_at "mu", by rw [List.append_nil]; walk_at "mu", by walk_at "sub"⟩)
    · rintro dn2 ⟨e, b2⟩ rs2 he2 _ μ4 ⟨rfl, e5, e6, u6⟩ N2 hN2
      have hm2 : (e, b2) ∈ treesL s b := by rw [he2]; exact List.mem_append_right _ List.mem_cons_self
      have hde := trees_dep hm2 hs
      have hl2 : dn2.length + 1 ≤ 2 := by
        have h1 := congrArg List.length he2
        have h2 := treesL_len s b
        rw [List.length_append, List.length_cons] at h1; omega
      have hlen : (triG 0 ((dn.flatMap fun p => treesL p.1 p.2) ++ dn2)).length ≤ 40 := by
        have h1 := triG_len ((dn.flatMap fun p => treesL p.1 p.2) ++ dn2) 0
        have h2 := flat_len (fun p : Lt × Nat => treesL p.1 p.2) (fun p => treesL_len _ _) dn
        rw [List.length_append] at h1; omega
      have hlen2 : ((triG 0 ((dn.flatMap fun p => treesL p.1 p.2) ++ dn2)).map tpD).length ≤ 40 := by rw [List.length_map]; exact hlen
      have ht := triG_app ((dn.flatMap fun p => treesL p.1 p.2) ++ dn2) [(e, b2)] 0
      walk_at "y"
      refine ⟨e, rfl, hde, ?_⟩
      walk_at "y"
      cases hc : isC e with
      | true =>
        rw [need_c hc]
        walk_at "y"
        have ht : triG 0 ((dn.flatMap fun p => treesL p.1 p.2) ++ (dn2 ++ [(e, b2)])) = triG 0 ((dn.flatMap fun p => treesL p.1 p.2) ++ dn2) := by
          rw [← List.append_assoc, triG_app]
          show _ ++ (if isC e then _ else _) = _
          rw [hc, if_pos rfl]; exact List.append_nil _
        exact Y.Cl.at (by walk_at "less") Sub.refl (hN2 _ _ ⟨rfl, by walk_at "mu", by rw [ht]; walk_at "mu", by walk_at "sub"⟩)
      | false =>
        have hp := need_pos hc
        refine br_dec (fun h1 => ?_) (fun h1 => absurd hp (by omega))
        walk_at "y"
        refine ⟨e, rfl, hde, ?_⟩
        walk_at "y"
        have ht2 : (triG 0 ((dn.flatMap fun p => treesL p.1 p.2) ++ (dn2 ++ [(e, b2)]))).map tpD = (triG 0 ((dn.flatMap fun p => treesL p.1 p.2) ++ dn2)).map tpD ++ [D.tup [.int (0 - (need e : Nat)), .int (((triG 0 ((dn.flatMap fun p => treesL p.1 p.2) ++ dn2)).map tpD).length : Nat), tF (e, b2)]] := by
          rw [← List.append_assoc, triG_app, List.map_append, List.length_map, Int.zero_sub]
          show _ ++ List.map tpD (if isC e then [] else [[-(need e : Int), ((0 + (triG 0 ((dn.flatMap fun p => treesL p.1 p.2) ++ dn2)).length : Nat) : Int), (rnum (e, b2) : Int)]]) = _ ++ [D.tup [_, _, rfD (rfE e b2)]]
          unfold rfE
          rw [hc, if_neg Bool.false_ne_true, if_neg Bool.false_ne_true, Nat.zero_add]; rfl
        exact Y.Cl.at (by walk_at "less") Sub.refl (hN2 _ _ ⟨rfl, by walk_at "mu", by rw [ht2]; exact mup_same, by walk_at "sub"⟩)
    · rintro _ μ4 ⟨rfl, e5, e6, u6⟩
      exact Y.Cl.at (by walk_at "less") Sub.refl (hN _ _ ⟨rfl, e5, by rw [List.flatMap_append, List.flatMap_cons, List.flatMap_nil, List.append_nil]; exact e6, u6⟩)
  · rintro _ μ4 ⟨rfl, e5, e6, u6⟩
    walk_at "y"
    rw [← trs_wb] at e6
    have hlen : (triG 0 (trs ss 0)).length ≤ 1000 := by
      have h1 := triG_len (trs ss 0) 0
      have h2 := flat_len (fun p : Lt × Nat => treesL p.1 p.2) (fun p => treesL_len _ _) (wb ss 0)
      rw [wb_len, ← trs_wb] at h2; omega
    refine w_sortI3 (triG 0 (trs ss 0)) (asL_adr e6) (triG_3 _ _) hlen fun p3 hp3 => ?_
    walk_at "y"
    exact RtC.same (q _ u6)
abbrev orF (p o n : Addr) : List (Str × D) := [(Str.ofString "parts", .adr p), (Str.ofString "order", .adr o), (Str.ofString "needed", .adr n)]
theorem rfD_k {c : Sr} : rfD (.k c) = srD c := rfl
theorem rfD_n {i : Nat} : rfD (.n i) = .int (i : Nat) := rfl
theorem atI_nat {α : Type} {xs : List α} {i : Nat} {d : α} (h : xs[i]? = some d) : atI xs (i : Int) = some d := by
  obtain ⟨h1, _⟩ := List.getElem?_eq_some_iff.mp h
  obtain ⟨x, e1, _, e2⟩ := atI_ex (xs := xs) (k := (i : Int)) (by omega) (by omega)
  rw [Int.toNat_natCast, h] at e2
  rw [e1, ← e2]
theorem nat_at {N : List Nat} {i : Nat} (h : i < N.length) : (natD N)[i]? = some (.int ((N.getD i 0 : Nat) : Int)) := by
  rw [List.getElem?_map, List.getElem?_eq_getElem h, List.getD_eq_getElem?_getD, List.getElem?_eq_getElem h]; rfl
/-- own parts come before -/
def Bk : Nat → List Rw → Prop
  | _, [] => True
  | b, r :: l => (∀ o ∈ ownR r, o < b) ∧ Bk (b + 1) l
theorem Bk.app : ∀ {l m : List Rw} {b : Nat}, Bk b l → Bk (b + l.length) m → Bk b (l ++ m)
  | [], _, _, _, g => g
  | r :: l, m, b, h, g => ⟨h.1, Bk.app h.2 (by rw [List.length_cons] at g; rw [show b + 1 + l.length = b + (l.length + 1) by omega]; exact g)⟩
theorem Bk.here : ∀ {dn rs : List Rw} {r : Rw} {b : Nat}, Bk b (dn ++ r :: rs) → ∀ o ∈ ownR r, o < b + dn.length
  | [], _, _, _, h => h.1
  | d :: dn, rs, r, b, h => fun o ho => by
    have := Bk.here (dn := dn) h.2 o ho
    rw [List.length_cons]; omega
theorem rfO_lt {e : Ex} {b o : Nat} (h : o ∈ rfO (rfE e b)) : o < b + cnt e := by
  rw [rfO_E] at h
  cases hc : isC e with
  | true => rw [hc, if_pos rfl] at h; cases h
  | false =>
    rw [hc, if_neg Bool.false_ne_true, List.mem_singleton] at h
    have := cnt_pos hc; omega
theorem bk_E : ∀ (e : Ex) (b : Nat), Bk b (rwE e b)
  | .num _, _ => trivial
  | .fld _, _ => trivial
  | .plc _, _ => ⟨(fun _ h => by cases h), trivial⟩
  | .mrk _, _ => ⟨(fun _ h => by cases h), trivial⟩
  | .cel e, b => (bk_E e b).app (by rw [rwE_len]; exact ⟨fun o ho => rfO_lt ho, trivial⟩)
  | .op _ x y, b => (bk_E x b).app (by
      rw [rwE_len]
      refine (bk_E y _).app ?_
      rw [rwE_len]
      refine ⟨fun o ho => ?_, trivial⟩
      rcases List.mem_append.mp (show o ∈ rfO (rfE x b) ++ rfO (rfE y (b + cnt x)) from ho) with h | h
      · have := rfO_lt h; omega
      · exact rfO_lt h)
theorem bk_T : ∀ (ts : List (Ex × Nat)) (b : Nat), Row b ts → Bk b (rwT ts)
  | [], _, _ => trivial
  | t :: ts, b, h => by
    show Bk b (rwE t.1 t.2 ++ rwT ts)
    have h1 := h.1
    refine Bk.app (by rw [← h1]; exact bk_E _ _) ?_
    rw [rwE_len]; exact bk_T ts _ h.2
theorem bk_S (ss : List Lt) : Bk 0 (rowsS ss) := bk_T _ _ (trs_row ss 0)
theorem ndsL_len : ∀ (L : List Rw) (N : List Nat), (ndsL L N).length = N.length + L.length
  | [], _ => rfl
  | r :: L, N => by
    show (ndsL L (N ++ [ndR N r])).length = _
    rw [ndsL_len L, List.length_append, List.length_singleton, List.length_cons]; omega
theorem ndsL_snoc (L : List Rw) (r : Rw) (N : List Nat) : ndsL (L ++ [r]) N = ndsL L N ++ [ndR (ndsL L N) r] := ndsL_app L [r] N
theorem natD_snoc (N : List Nat) (k : Nat) : natD (N ++ [k]) = natD N ++ [D.int (k : Nat)] := List.map_append
theorem trs_dep {ss : List Lt} (hd : ∀ s ∈ ss, stDep s ≤ 3) : ∀ t ∈ trs ss 0, dep t.1 ≤ 3 := fun t ht => by
  rw [trs_wb] at ht
  obtain ⟨p, hp, ht⟩ := List.mem_flatMap.mp ht
  exact trees_dep ht (hd _ (wb_mem hp))
theorem fall_mem {ss : List Lt} {t : Ex × Nat} (h : t ∈ fallT ss) : t ∈ trs ss 0 ∧ isC t.1 = false := by
  have h := (fall_perm ss).mem_iff.mp h
  obtain ⟨h1, h2⟩ := List.mem_filter.mp h
  exact ⟨h1, by simpa using h2⟩
theorem trs_len (ss : List Lt) : (trs ss 0).length ≤ 2 * ss.length := by
  have h2 := flat_len (fun p : Lt × Nat => treesL p.1 p.2) (fun p => treesL_len _ _) (wb ss 0)
  rw [wb_len, ← trs_wb] at h2; exact h2
theorem fall_len (ss : List Lt) : (fallT ss).length ≤ 2 * ss.length := by
  rw [(fall_perm ss).length_eq]
  exact Nat.le_trans (List.length_filter_le _ _) (trs_len ss)
theorem ordT_len : ∀ l : List (Ex × Nat), (∀ t ∈ l, dep t.1 ≤ 3) → (ordT l).length ≤ 15 * l.length
  | [], _ => Nat.le_refl _
  | t :: l, h => by
    show (ordE t.1 t.2 ++ ordT l).length ≤ _
    have h1 := nds15 (h t List.mem_cons_self)
    have h2 := cnt_nds t.1
    have h3 := ordT_len l fun u hu => h u (List.mem_cons_of_mem _ hu)
    rw [List.length_append, ordE_len, List.length_cons]; omega
theorem ordT_snoc (l : List (Ex × Nat)) (t : Ex × Nat) : ordT (l ++ [t]) = ordT l ++ ordE t.1 t.2 := by
  unfold ordT
  rw [List.flatMap_append, List.flatMap_cons, List.flatMap_nil, List.append_nil]
theorem rows_len {ss : List Lt} (hd : ∀ s ∈ ss, stDep s ≤ 3) : (rowsS ss).length ≤ 30 * ss.length := by
  have h : (ss.foldl stp ([], [])).1.length ≤ 0 + 30 * ss.length := (rts_len ss ([], []) hd).1
  have e : (rts ss).1 = (rowsS ss).map rwD := by rw [rts_rw]
  have e2 : (ss.foldl stp ([], [])).1.length = (rowsS ss).length := by
    show (rts ss).1.length = _
    rw [e, List.length_map]
  omega
abbrev zT (z : (Ex × Nat) × Nat) : D := tpD (tri z)
theorem srD_in {n : Int} : D.tup [.str "in", .int n] = srD (0, n) := rfl
theorem rootL_cel {x y : Ex} {b : Nat} : rootL (.cel x y) b = [rfE x b, rfE y (b + cnt x)] := rfl
theorem rootL_put {m : Bool} {s : Sl} {e : Ex} {b : Nat} : rootL (.put m s e) b = [rfE e b] := rfl
/-- where parts lie -/
def Lies (kvs : List (Key × D)) (inn : Nat → Nat) (l : List Nat) : Prop := ∀ n ∈ l, valD kvs (.inl (n : Nat)) = some (.int ((inn n : Nat) : Int))
theorem ordE_in : ∀ (e : Ex) (b : Nat), ∀ n ∈ ordE e b, b ≤ n ∧ n < b + cnt e
  | .num _, _, n, h => by cases h
  | .fld _, _, n, h => by cases h
  | .plc _, b, n, h => by rw [List.mem_singleton.mp h]; exact ⟨Nat.le_refl _, Nat.lt_succ_self _⟩
  | .mrk _, b, n, h => by rw [List.mem_singleton.mp h]; exact ⟨Nat.le_refl _, Nat.lt_succ_self _⟩
  | .cel e, b, n, h => by
    have hc : cnt (.cel e) = cnt e + 1 := rfl
    rcases List.mem_append.mp (show n ∈ ordE e b ++ [b + cnt e] from h) with h | h
    · have := ordE_in e b n h; omega
    · rw [List.mem_singleton.mp h]; omega
  | .op o x y, b, n, h => by
    have hc : cnt (.op o x y) = cnt x + cnt y + 1 := rfl
    have k : n ∈ ordE x b ∨ n ∈ ordE y (b + cnt x) ∨ n = b + cnt x + cnt y := by
      rcases List.mem_append.mp (show n ∈ (if need x < need y then ordE y (b + cnt x) ++ ordE x b else ordE x b ++ ordE y (b + cnt x)) ++ [b + cnt x + cnt y] from h) with h | h
      · split at h <;> rcases List.mem_append.mp h with h | h
        · exact .inr (.inl h)
        · exact .inl h
        · exact .inl h
        · exact .inr (.inl h)
      · exact .inr (.inr (List.mem_singleton.mp h))
    rcases k with k | k | k
    · have := ordE_in x b n k; omega
    · have := ordE_in y _ n k; omega
    · omega
theorem ordE_root : ∀ (e : Ex) (b : Nat), isC e = false → b + cnt e - 1 ∈ ordE e b
  | .num _, _, h => by cases h
  | .fld _, _, h => by cases h
  | .plc _, b, _ => List.mem_singleton.mpr rfl
  | .mrk _, b, _ => List.mem_singleton.mpr rfl
  | .cel e, b, _ => List.mem_append_right _ (List.mem_singleton.mpr rfl)
  | .op _ x y, b, _ => List.mem_append_right _ (List.mem_singleton.mpr (by show b + (cnt x + cnt y + 1) - 1 = _; omega))
theorem ord_at {ss : List Lt} {n : Nat} (h : n ∈ ordS ss) : ∃ r, (rowsS ss)[n]? = some r ∧ ownL (rowsS ss) n = ownR r := by
  obtain ⟨t, ht, hn⟩ := List.mem_flatMap.mp (show n ∈ (fallT ss).flatMap _ from h)
  have h1 := row_lo (trs_row ss 0) t (fall_mem ht).1
  have h2 := ordE_in _ _ n hn
  have h3 : n < (rowsS ss).length := by show n < (rwT (trs ss 0)).length; omega
  refine ⟨_, List.getElem?_eq_getElem h3, ?_⟩
  unfold ownL
  rw [List.getElem?_eq_getElem h3]
theorem root_in {ss : List Lt} {p : Lt × Nat} (hp : p ∈ wb ss 0) {n : Nat} (h : n ∈ (rootL p.1 p.2).flatMap rfO) : n ∈ ordS ss := by
  have e : rootL p.1 p.2 = (treesL p.1 p.2).map fun t => rfE t.1 t.2 := by cases p.1 <;> rfl
  rw [e] at h
  obtain ⟨r, hr, hn⟩ := List.mem_flatMap.mp h
  obtain ⟨t, ht, rfl⟩ := List.mem_map.mp hr
  rw [rfO_E] at hn
  cases hc : isC t.1 with
  | true => rw [hc, if_pos rfl] at hn; cases hn
  | false =>
    rw [hc, if_neg Bool.false_ne_true, List.mem_singleton] at hn
    have h1 : t ∈ trs ss 0 := by rw [trs_wb]; exact List.mem_flatMap.mpr ⟨p, hp, ht⟩
    have h2 : t ∈ fallT ss := (fall_perm ss).mem_iff.mpr (List.mem_filter.mpr ⟨h1, by rw [hc]; rfl⟩)
    rw [hn]
    exact List.mem_flatMap.mpr ⟨t, h2, ordE_root _ _ hc⟩
theorem ordS_len {ss : List Lt} (hd : ∀ s ∈ ss, stDep s ≤ 3) : (ordS ss).length ≤ 30 * ss.length := by
  have h1 := ordT_len (fallT ss) fun t ht => trs_dep hd _ (fall_mem ht).1
  have h2 := fall_len ss
  show (ordT (fallT ss)).length ≤ _
  omega
theorem lvS_mem {own : Nat → List Nat} : ∀ (l lv : List Nat) {v : Nat}, v ∈ lvS own lv l → v ∈ lv ∨ v ∈ l
  | [], _, _, h => .inl h
  | n :: l, lv, v, h => by
    rcases lvS_mem l _ h with h | h
    · rcases List.mem_cons.mp h with h | h
      · exact .inr (by rw [h]; exact List.mem_cons_self)
      · exact .inl (List.mem_filter.mp h).1
    · exact .inr (List.mem_cons_of_mem _ h)
theorem own2 (r : Rw) : (ownR r).length ≤ 2 := by
  have h : ∀ r : Rf, (rfO r).length ≤ 1 := fun r => by cases r <;> exact Nat.le_of_ble_eq_true rfl
  cases r with
  | get s => exact Nat.zero_le _
  | ask s => exact Nat.zero_le _
  | cell r => exact Nat.le_trans (h r) (by decide)
  | two o a b =>
    show (rfO a ++ rfO b).length ≤ 2
    rw [List.length_append]
    have := h a; have := h b; omega
theorem sm_free {many : Nat} {lv : List Nat} {st : Ip} (h : SmOk many lv st) : st.1.length ≤ many := by
  have := h.length_eq
  rw [List.length_append, List.length_range] at this; omega
theorem lies_put {kvs : List (Key × D)} {f : Nat → Nat} {dn : List Nat} {n to : Nat} (h : Lies kvs f dn) : Lies (putD kvs (.inl (n : Nat)) (.int ((to : Nat) : Int))) (upF f n to) (dn ++ [n]) := fun m hm => by
  rw [valD_put]
  by_cases e : n = m
  · subst e; rw [if_pos rfl, upF_same]
  · have e2 : ¬ (Sum.inl (n : Int) : Key) = Sum.inl (m : Int) := fun z => e (by injection z with z; omega)
    rw [if_neg e2, upF_ne (Ne.symm e)]
    rcases List.mem_append.mp hm with hm | hm
    · exact h m hm
    · exact absurd (List.mem_singleton.mp hm).symm e
theorem hzip (ss : List Lt) : prsD (ss.map ltD) ((roots ss 0).map rtD) = (wb ss 0).map fun p => D.tup [ltD p.1, rtD (rootL p.1 p.2)] := by
  rw [prs_zip, zip_wb, List.map_map]; rfl
theorem rng_natD (k : Nat) : rngD 0 k = natD (List.range k) := by
  rw [rngD_map]
  exact List.map_congr_left fun i _ => by rw [Int.zero_add]
/-! ### _law_e -/
def spLe (n : Nat) : Sp2 := fun ds μ Q _ => ∃ (s : Addr) (d : Int), ds = [.adr s, .int d] ∧ d ≤ n + 1 ∧ Strm μ s ∧ ∀ e μ', dep e ≤ n → Tk s μ μ' → Q (exD e) μ'
def spLep : Nat → Sp2
  | 0 => fun _ _ _ _ => False
  | n + 1 => spLe n
theorem ELe (T : Tt K mg cc) (n j : Nat) (hj : j ≤ n + 1) (DLe : Df P w K mg base "_law_e" j ["_law_stream_here", "_law_deep"] (spLep n)) : Df P w K mg base "_law_e" (n + 2) ["_law_stream_here", "_law_deep"] (spLe n) := by
  have DLtake := DLtake (P := P) (w := w) (base := base) T
  refine T.xLe.ok (k := n + 1) scLe (by rintro ds μ Q E ⟨s, d, rfl, hd, hS, h⟩ <;> rfl) (fun f cdv A outer s H E hr => ⟨_, _, (b_cons (s_set (i := 2) (e_call DLtake hr (by rfl) (a_cons (e_pv 0 (pv 0)) (a_cons e_int a_nil)) (hjk := by omega)) scLe.nd rfl (by first | exact Or.inl rfl | exact Or.inr rfl))
      (b_cons (s_if (t_w (k_or (t_lt (e_pv 1 (pv 1)) e_int) (k_or1 (t_lt (e_pv 2 (pv 2)) e_int))))
      (b_cons (s_set (i := 3) (e_ix (e_fz (e_lst (a_cons (e_tup (a_cons e_str (a_cons (e_call DLtake hr (by rfl) (a_cons (e_pv 0 (pv 0)) (a_cons e_int a_nil)) (hjk := by omega)) a_nil))) (a_cons (e_tup (a_cons e_str (a_cons (e_call DLtake hr (by rfl) (a_cons (e_pv 0 (pv 0)) (a_cons e_int a_nil)) (hjk := by omega)) a_nil))) a_nil)))) (e_call DLtake hr (by rfl) (a_cons (e_pv 0 (pv 0)) (a_cons e_int a_nil)) (hjk := by omega)) (fun _ _ => rfl)) scLe.nd rfl (by first | exact Or.inl rfl | exact Or.inr rfl))
      (b_cons (s_set (i := 4) (e_tup (a_cons e_str (a_cons (e_call DLtake hr (by rfl) (a_cons (e_pv 0 (pv 0)) (a_cons (e_ix (e_fz (e_lst (a_cons e_int (a_cons (e_pow e_int e_int) a_nil)))) (e_call DLtake hr (by rfl) (a_cons (e_pv 0 (pv 0)) (a_cons e_int a_nil)) (hjk := by omega)) (fun _ _ => rfl)) a_nil)) (hjk := by omega)) a_nil))) scLe.nd rfl (by first | exact Or.inl rfl | exact Or.inr rfl))
      (b_cons (s_set (i := 5) (e_tup (a_cons e_str (a_cons (e_call DLtake hr (by rfl) (a_cons (e_pv 0 (pv 0)) (a_cons e_int a_nil)) (hjk := by omega)) a_nil))) scLe.nd rfl (by first | exact Or.inl rfl | exact Or.inr rfl))
      (b_one (s_ret (e_ix (e_fz (e_lst (a_cons (e_pv 4 (pv 4)) (a_cons (e_pv 5 (pv 5)) (a_cons (e_tup (a_cons e_str (a_cons (e_pv 3 (pv 3)) a_nil))) (a_cons (e_tup (a_cons e_str (a_cons (e_pv 3 (pv 3)) a_nil))) (a_cons (e_tup (a_cons e_str (a_cons (e_pv 3 (pv 3)) a_nil))) a_nil))))))) (e_call DLtake hr (by rfl) (a_cons (e_pv 0 (pv 0)) (a_cons e_int a_nil)) (hjk := by omega)) (fun _ _ => rfl)))))))
      b_nil)
      (b_cons (s_if (t_eq hr (e_pv 2 (pv 2)) e_int)
      (b_one (s_ret (e_tup (a_cons e_str (a_cons (e_call DLe hr (by rfl) (a_cons (e_pv 0 (pv 0)) (a_cons (e_sub (e_pv 1 (pv 1)) e_int) a_nil)) (hjk := hj)) a_nil)))))
      b_nil)
      (b_cons (s_set (i := 6) (e_ix (e_fz (e_lst (a_cons e_str (a_cons e_str (a_cons e_str (a_cons e_str (a_cons e_str (a_cons e_str (a_cons e_str (a_cons e_str (a_cons e_str a_nil))))))))))) (e_call DLtake hr (by rfl) (a_cons (e_pv 0 (pv 0)) (a_cons e_int a_nil)) (hjk := by omega)) (fun _ _ => rfl)) scLe.nd rfl (by first | exact Or.inl rfl | exact Or.inr rfl))
      (b_one (s_ret (e_tup (a_cons (e_pv 6 (pv 6)) (a_cons (e_call DLe hr (by rfl) (a_cons (e_pv 0 (pv 0)) (a_cons (e_sub (e_pv 1 (pv 1)) e_int) a_nil)) (hjk := hj)) (a_cons (e_call DLe hr (by rfl) (a_cons (e_pv 0 (pv 0)) (a_cons (e_sub (e_pv 1 (pv 1)) e_int) a_nil)) (hjk := hj)) a_nil)))))))))), ?_⟩)
  rintro ds μ Q E ⟨s, d, rfl, hd, hS, h⟩
  walk_at "y"
  refine ⟨s, _, rfl, hS, by omega, by omega, fun way μ1 w0 w1 t1 => ?_⟩
  walk_at "y"
  refine br_dec (fun h1 => ?_) (fun h1 => ?_)
  rotate_left
  walk_at "y"
  refine br_dec (fun h2 => ?_) (fun h2 => ?_)
  rotate_left
  · walk_at "y"
    cases n with
    | zero => exact absurd hd (by omega)
    | succ n =>
      refine br_dec (fun h3 => ?_) (fun h3 => ?_)
      · walk_at "y"
        refine ⟨s, d - 1, rfl, by omega, t1.st, fun e μ2 he t2 => ?_⟩
        walk_at "y"
        exact RtC.same (h (.cel e) _ (Nat.succ_le_succ he) (t1.trans t2))
      · walk_at "y"
        refine ⟨s, _, rfl, t1.st, by omega, by omega, fun k μ2 k0 k1 t2 => ?_⟩
        obtain ⟨x, ex, mx, _⟩ := atI_ex (xs := lo9.map D.str) k0 k1
        obtain ⟨o, ho, rfl⟩ := List.mem_map.mp mx
        refine w_ixL ex ?_
        walk_at "y"
        refine ⟨s, d - 1, rfl, by omega, t2.st, fun e1 μ3 he1 t3 => ?_⟩
        walk_at "y"
        refine ⟨s, d - 1, rfl, by omega, t3.st, fun e2 μ4 he2 t4 => ?_⟩
        walk_at "y"
        exact RtC.same (h (.op ⟨o, ho⟩ e1 e2) _ (by show max (dep e1) (dep e2) + 1 ≤ n + 1; omega) (t1.trans (t2.trans (t3.trans t4))))
  all_goals
    walk_at "y"
    refine ⟨s, _, rfl, t1.st, by omega, by omega, fun k2 μ2 k20 k21 t2 => ?_⟩
    walk_at "y"
    refine ⟨s, _, rfl, t2.st, by omega, by omega, fun k3 μ3 k30 k31 t3 => ?_⟩
    walk_at "y"
    refine ⟨s, _, rfl, t3.st, by omega, by omega, fun k4 μ4 k40 k41 t4 => ?_⟩
    obtain ⟨x4, e4, m4, _⟩ := atI_ex (xs := [D.tup [.str (Str.ofString "is"), .int k2], D.tup [.str (Str.ofString "by"), .int k3]]) k40 k41
    have h4 : ∃ sl : Ll, x4 = llD sl := by
      simp only [List.mem_cons, List.not_mem_nil, or_false] at m4
      rcases m4 with rfl | rfl
      · exact ⟨(false, k2), rfl⟩
      · exact ⟨(true, k3), rfl⟩
    obtain ⟨sl, rfl⟩ := h4
    refine w_ixL e4 ?_
    walk_at "y"
    refine ⟨s, _, rfl, t4.st, by omega, by omega, fun k5 μ5 k50 k51 t5 => ?_⟩
    obtain ⟨x5, e5, m5, _⟩ := atI_ex (xs := [D.int 4, D.int (2 ^ Int.toNat 24)]) k50 k51
    have h5 : ∃ m : Int, x5 = .int m ∧ 0 < m ∧ m < 2 ^ 200 := by
      simp only [List.mem_cons, List.not_mem_nil, or_false] at m5
      rcases m5 with rfl | rfl
      · exact ⟨_, rfl, by decide, by decide⟩
      · exact ⟨_, rfl, by decide, by decide⟩
    obtain ⟨m, rfl, m0, m1⟩ := h5
    refine w_ixL e5 ?_
    walk_at "y"
    refine ⟨s, _, rfl, t5.st, by omega, by omega, fun k6 μ6 k60 k61 t6 => ?_⟩
    walk_at "y"
    refine ⟨s, _, rfl, t6.st, by omega, by omega, fun k7 μ7 k70 k71 t7 => ?_⟩
    walk_at "y"
    refine ⟨s, _, rfl, t7.st, by omega, by omega, fun k8 μ8 k80 k81 t8 => ?_⟩
    obtain ⟨x8, e8, m8, _⟩ := atI_ex (xs := [exD (.num k6), exD (.fld k7), exD (.plc sl), exD (.mrk sl), exD (.plc sl)]) k80 k81
    refine w_ixL e8 ?_
    have t18 := t1.trans (t2.trans (t3.trans (t4.trans (t5.trans (t6.trans (t7.trans t8))))))
    simp only [List.mem_cons, List.not_mem_nil, or_false] at m8
    rcases m8 with rfl | rfl | rfl | rfl | rfl
    · exact RtC.same (h _ _ (Nat.zero_le _) t18)
    · exact RtC.same (h _ _ (Nat.zero_le _) t18)
    · exact RtC.same (h _ _ (Nat.zero_le _) t18)
    · exact RtC.same (h _ _ (Nat.zero_le _) t18)
    · exact RtC.same (h _ _ (Nat.zero_le _) t18)
theorem DLe (T : Tt K mg cc) : ∀ n, Df P w K mg base "_law_e" (n + 2) ["_law_stream_here", "_law_deep"] (spLe n)
  | 0 => ELe T 0 1 (by omega) (T.xLe.never scLe)
  | n + 1 => ELe T (n + 1) (n + 2) (by omega) (DLe T n)
/-! ### _law_part -/
def spLpart (n : Nat) : Sp2 := fun ds μ Q _ => ∃ (e : Ex) (p : Addr) (ps : List D), ds = [exD e, .adr p] ∧ dep e ≤ n ∧ μ p = some (.lst ps) ∧ ps.length + nds e ≤ 1000 ∧ Q (prt e ps).1 (mup μ p (.lst (prt e ps).2))
def spLpartp : Nat → Sp2
  | 0 => fun _ _ _ _ => False
  | n + 1 => spLpart n
theorem ELpart (T : Tt K mg cc) (n j : Nat) (hj : j ≤ n + 1) (DLpart : Df P w K mg base "_law_part" j ["_law_e_here", "_law_parts_here"] (spLpartp n)) : Df P w K mg base "_law_part" (n + 2) ["_law_e_here", "_law_parts_here"] (spLpart n) := by
  refine T.xLpart.ok (k := n + 1) scLpart (by rintro ds μ Q E ⟨e, p, ps, rfl, hd, hp, hl, h⟩ <;> rfl) (fun f cdv A outer s H E hr => ⟨_, _, (b_cons (s_if (t_w (k_or (t_eq hr (e_ix (e_pv 0 (pv 0)) e_int (fun _ _ => rfl)) e_str) (k_or1 (t_eq hr (e_ix (e_pv 0 (pv 0)) e_int (fun _ _ => rfl)) e_str))))
      (b_one (s_ret (e_pv 0 (pv 0))))
      b_nil)
      (b_cons (s_if (t_w (k_or (t_eq hr (e_ix (e_pv 0 (pv 0)) e_int (fun _ _ => rfl)) e_str) (k_or1 (t_eq hr (e_ix (e_pv 0 (pv 0)) e_int (fun _ _ => rfl)) e_str))))
      (b_one (s_expr (e_app (e_pv 1 (pv 1)) (a_cons (e_tup (a_cons (e_ix (e_fz (e_lst (a_cons e_str (a_cons e_str a_nil)))) (e_int1 (by rfl) T.b_int (a_cons (e_eq hr (e_ix (e_pv 0 (pv 0)) e_int (fun _ _ => rfl)) e_str) a_nil)) (fun _ _ => rfl)) (a_cons (e_ix (e_pv 0 (pv 0)) e_int (fun _ _ => rfl)) a_nil))) a_nil))))
      (b_one (s_if (t_eq hr (e_ix (e_pv 0 (pv 0)) e_int (fun _ _ => rfl)) e_str)
      (b_cons (s_set (i := 2) (e_call DLpart hr (by rfl) (a_cons (e_ix (e_pv 0 (pv 0)) e_int (fun _ _ => rfl)) (a_cons (e_pv 1 (pv 1)) a_nil)) (hjk := hj)) scLpart.nd rfl (by first | exact Or.inl rfl | exact Or.inr rfl))
      (b_one (s_expr (e_app (e_pv 1 (pv 1)) (a_cons (e_tup (a_cons e_str (a_cons (e_pv 2 (pv 2)) a_nil))) a_nil)))))
      (b_cons (s_set (i := 3) (e_call DLpart hr (by rfl) (a_cons (e_ix (e_pv 0 (pv 0)) e_int (fun _ _ => rfl)) (a_cons (e_pv 1 (pv 1)) a_nil)) (hjk := hj)) scLpart.nd rfl (by first | exact Or.inl rfl | exact Or.inr rfl))
      (b_cons (s_set (i := 4) (e_call DLpart hr (by rfl) (a_cons (e_ix (e_pv 0 (pv 0)) e_int (fun _ _ => rfl)) (a_cons (e_pv 1 (pv 1)) a_nil)) (hjk := hj)) scLpart.nd rfl (by first | exact Or.inl rfl | exact Or.inr rfl))
      (b_one (s_expr (e_app (e_pv 1 (pv 1)) (a_cons (e_tup (a_cons (e_ix (e_pv 0 (pv 0)) e_int (fun _ _ => rfl)) (a_cons (e_pv 3 (pv 3)) (a_cons (e_pv 4 (pv 4)) a_nil)))) a_nil)))))))))
      (b_one (s_ret (e_sub (e_len (by rfl) T.b_len (a_cons (e_pv 1 (pv 1)) a_nil)) e_int))))), ?_⟩)
  rintro ds μ Q E ⟨e, p, ps, rfl, hd, hp, hl, h⟩
  cases e with
  | num k =>
    rw [show (prt (.num k) ps).2 = ps from rfl, mup_self hp] at h
    rw [exD_num]
    walk_at "y"
    exact RtC.same h
  | fld k =>
    rw [show (prt (.fld k) ps).2 = ps from rfl, mup_self hp] at h
    rw [exD_fld]
    walk_at "y"
    exact RtC.same h
  | plc s =>
    have hl2 : ps.length + 1 ≤ 1000 := hl
    rw [exD_plc]
    walk_at "y"
    rw [len_snoc]
    exact RtC.same h
  | mrk s =>
    have hl2 : ps.length + 1 ≤ 1000 := hl
    rw [exD_mrk]
    walk_at "y"
    rw [len_snoc]
    exact RtC.same h
  | cel e =>
    have hl2 : ps.length + (nds e + 1) ≤ 1000 := hl
    have pl := prt_len e ps
    have hd2 : dep e + 1 ≤ n := hd
    rw [exD_cel]
    walk_at "y"
    cases n with
    | zero => omega
    | succ n =>
      refine ⟨e, p, ps, rfl, by omega, hp, by omega, ?_⟩
      walk_at "y"
      rw [len_snoc, mup_mup]
      exact RtC.same h
  | op o a b =>
    have hl2 : ps.length + (nds a + nds b + 1) ≤ 1000 := hl
    obtain ⟨o1, o2, o3, o4, o5, o6, o7⟩ := op_no o
    have pl := prt_len a ps
    have pl2 := prt_len b (prt a ps).2
    have hd2 : max (dep a) (dep b) + 1 ≤ n := hd
    rw [exD_op]
    walk_at "y"
    cases n with
    | zero => omega
    | succ n =>
      refine ⟨a, p, ps, rfl, by omega, hp, by omega, ?_⟩
      walk_at "y"
      refine ⟨b, p, (prt a ps).2, rfl, by omega, by walk_at "mu", by omega, ?_⟩
      walk_at "y"
      rw [len_snoc, mup_mup, mup_mup]
      exact RtC.same h
theorem DLpart (T : Tt K mg cc) : ∀ n, Df P w K mg base "_law_part" (n + 2) ["_law_e_here", "_law_parts_here"] (spLpart n)
  | 0 => ELpart T 0 1 (by omega) (T.xLpart.never scLpart)
  | n + 1 => ELpart T (n + 1) (n + 2) (by omega) (DLpart T n)
/-! ### _law_parts -/
def spLparts : Sp2 := fun ds μ Q _ => ∃ ss : List Lt, ds = [.tup (ss.map ltD)] ∧ ss.length ≤ 20 ∧ (∀ s ∈ ss, stDep s ≤ 3) ∧ ∀ p1 p2 μ', μ p1 = none → μ p2 = none → p1 ≠ p2 → Sub μ μ' → μ' p1 = some (.lst (rts ss).1) → μ' p2 = some (.lst (rts ss).2) → Q (.tup [.adr p1, .adr p2]) μ'
theorem DLparts (T : Tt K mg cc) : Df P w K mg base "_law_parts" 6 ["_law_sets_here"] (spLparts) := by
  have DLpart := DLpart (P := P) (w := w) (base := base) T 3
  refine T.xLparts.ok scLparts (by rintro ds μ Q E ⟨ss, rfl, hn, hd, h⟩ <;> rfl) (fun f cdv A outer s H E hr => ⟨_, _, (b_cons (s_set (i := 1) (e_lst a_nil) scLparts.nd rfl (by first | exact Or.inl rfl | exact Or.inr rfl))
      (b_cons (s_set (i := 2) (e_lst a_nil) scLparts.nd rfl (by first | exact Or.inl rfl | exact Or.inr rfl))
      (b_cons (s_for PassesOwn.never rfl (j_t (e_pv 0 (pv 0))) (g_nm (pg_name (i := 3) scLparts.nd rfl (by first | exact Or.inl rfl | exact Or.inr rfl)))
      (b_one (s_if (t_eq hr (e_ix (e_pv 3 (pv 3)) e_int (fun _ _ => rfl)) e_str)
      (b_cons (s_set (i := 4) (e_call DLpart hr (by rfl) (a_cons (e_ix (e_pv 3 (pv 3)) e_int (fun _ _ => rfl)) (a_cons (e_pv 1 (pv 1)) a_nil))) scLparts.nd rfl (by first | exact Or.inl rfl | exact Or.inr rfl))
      (b_one (s_expr (e_app (e_pv 2 (pv 2)) (a_cons (e_tup (a_cons (e_pv 4 (pv 4)) (a_cons (e_call DLpart hr (by rfl) (a_cons (e_ix (e_pv 3 (pv 3)) e_int (fun _ _ => rfl)) (a_cons (e_pv 1 (pv 1)) a_nil))) a_nil))) a_nil)))))
      (b_one (s_expr (e_app (e_pv 2 (pv 2)) (a_cons (e_tup (a_cons (e_call DLpart hr (by rfl) (a_cons (e_ix (e_pv 3 (pv 3)) e_int (fun _ _ => rfl)) (a_cons (e_pv 1 (pv 1)) a_nil))) a_nil)) a_nil)))))))
      (b_one (s_ret (e_tup (a_cons (e_pv 1 (pv 1)) (a_cons (e_pv 2 (pv 2)) a_nil)))))))), ?_⟩)
  rintro ds μ Q E ⟨ss, rfl, hn, hd, h⟩
  walk_at "y"
  intro p hp
  walk_at "y"
  intro p2 hp2
  have np2p : p2 ≠ p := ne_of_mup hp2
  have hp20 : μ p2 = none := none_sub (Sub.new hp) hp2
  walk_at "y"
  refine Y.Cl.at (ρ' := start2 nLparts [.tup (ss.map ltD), .adr p, .adr p2]) (by walk_at "less") Sub.refl (w_turns (fun xs ρ μ' => ∃ dn rs : List Lt, ss = dn ++ rs ∧ xs = rs.map ltD ∧ ρ = start2 nLparts [.tup (ss.map ltD), .adr p, .adr p2] ∧ μ' p = some (.lst (rts dn).1) ∧ μ' p2 = some (.lst (rts dn).2) ∧ Sub μ μ') (fun _ _ _ _ => trivial) ?_ ?_ _ _ _ ⟨[], ss, rfl, rfl, rfl, by walk_at "mu", by walk_at "mu", by walk_at "sub"⟩)
  · rintro x xs _ μ1 ⟨dn, rs, hss, hx, rfl, e2, e3, u⟩ N hN
    cases rs with
    | nil => cases hx
    | cons s rs =>
      injection hx with h3 h4
      subst h3
      have hs : stDep s ≤ 3 := hd s (by rw [hss]; exact List.mem_append_right _ List.mem_cons_self)
      have hl : (rts dn).1.length ≤ 0 + 30 * dn.length ∧ (rts dn).2.length = 0 + dn.length := rts_len dn ([], []) fun x hx => hd x (by rw [hss]; exact List.mem_append_left _ hx)
      have hl2 : dn.length + 1 ≤ 20 := by rw [hss, List.length_append, List.length_cons] at hn; omega
      have next : ∀ μ2, μ2 p = some (.lst (stp (rts dn) s).1) → μ2 p2 = some (.lst (stp (rts dn) s).2) → Sub μ μ2 → N (start2 nLparts [.tup (ss.map ltD), .adr p, .adr p2]) μ2 := fun μ2 a2 a3 a4 =>
        hN _ _ ⟨dn ++ [s], rs, by rw [hss, List.append_assoc]; rfl, h4, rfl, by rw [rts_snoc]; exact a2, by rw [rts_snoc]; exact a3, a4⟩
      cases s with
      | cel a b =>
        have hs' : max (dep a) (dep b) ≤ 3 := hs
        have n1 := nds15 (e := a) (by omega)
        have n2 := nds15 (e := b) (by omega)
        have h3 := prt_len a (rts dn).1
        have h4 := prt_len b (prt a (rts dn).1).2
        rw [stD_cel]
        walk_at "y"
        refine ⟨a, p, _, rfl, by omega, by walk_at "mu", by omega, ?_⟩
        walk_at "y"
        refine ⟨b, p, _, rfl, by omega, by walk_at "mu", by omega, ?_⟩
        walk_at "y"
        exact Y.Cl.at (by walk_at "less") Sub.refl (next _ (by walk_at "mu") (by walk_at "mu") (by walk_at "sub"))
      | put m s e =>
        have n1 := nds15 (e := e) hs
        have h3 := prt_len e (rts dn).1
        have hm : ¬ (if m then Str.ofString "mark" else Str.ofString "place") = Str.ofString "cell" := by cases m <;> decide +kernel
        rw [stD_put]
        walk_at "y"
        refine ⟨e, p, _, rfl, hs, by walk_at "mu", by omega, ?_⟩
        walk_at "y"
        exact Y.Cl.at (by walk_at "less") Sub.refl (next _ (by walk_at "mu") (by walk_at "mu") (by walk_at "sub"))
  · rintro _ μ1 ⟨dn, rs, hss, hx, rfl, e2, e3, u⟩
    obtain rfl : rs = [] := by cases rs with | nil => rfl | cons _ _ => cases hx
    rw [List.append_nil] at hss
    subst hss
    walk_at "y"
    exact RtC.same (h p p2 _ hp hp20 np2p.symm u e2 e3)
/-! ### _law_sets -/
def spLsets : Sp2 := fun ds μ Q _ => ∃ s, ds = [.adr s] ∧ Strm μ s ∧ ∀ (ss : List Lt) μ', ss.length ≤ 4 → (∀ x ∈ ss, stDep x ≤ 3) → Tk s μ μ' → Q (.tup (ss.map ltD)) μ'
theorem DLsets (T : Tt K mg cc) : Df P w K mg base "_law_sets" 6 ["_law_stream_here"] (spLsets) := by
  have DLtake := DLtake (P := P) (w := w) (base := base) T
  have DLe := DLe (P := P) (w := w) (base := base) T 3
  refine T.xLsets.ok scLsets (by rintro ds μ Q E ⟨s, rfl, hS, h⟩ <;> rfl) (fun f cdv A outer s H E hr => ⟨_, _, (b_cons (s_set (i := 1) (e_lst a_nil) scLsets.nd rfl (by first | exact Or.inl rfl | exact Or.inr rfl))
      (b_cons (s_set (i := 2) (e_add e_int (e_call DLtake hr (by rfl) (a_cons (e_pv 0 (pv 0)) (a_cons e_int a_nil)))) scLsets.nd rfl (by first | exact Or.inl rfl | exact Or.inr rfl))
      (b_cons (s_for PassesOwn.never rfl (j_r1 (by rfl) T.b_range (a_cons (e_ix (e_fz (e_lst (a_cons e_int (a_cons e_int (a_cons e_int (a_cons e_int (a_cons e_int a_nil))))))) (e_call DLtake hr (by rfl) (a_cons (e_pv 0 (pv 0)) (a_cons e_int a_nil))) (fun _ _ => rfl)) a_nil)) (g_nm (pg_name (i := 3) scLsets.nd rfl (by first | exact Or.inl rfl | exact Or.inr rfl)))
      (b_cons (s_set (i := 4) (e_call DLtake hr (by rfl) (a_cons (e_pv 0 (pv 0)) (a_cons e_int a_nil))) scLsets.nd rfl (by first | exact Or.inl rfl | exact Or.inr rfl))
      (b_cons (s_set (i := 5) (e_ix (e_fz (e_lst (a_cons (e_tup (a_cons e_str (a_cons (e_call DLtake hr (by rfl) (a_cons (e_pv 0 (pv 0)) (a_cons e_int a_nil))) a_nil))) (a_cons (e_tup (a_cons e_str (a_cons (e_call DLtake hr (by rfl) (a_cons (e_pv 0 (pv 0)) (a_cons e_int a_nil))) a_nil))) a_nil)))) (e_call DLtake hr (by rfl) (a_cons (e_pv 0 (pv 0)) (a_cons e_int a_nil))) (fun _ _ => rfl)) scLsets.nd rfl (by first | exact Or.inl rfl | exact Or.inr rfl))
      (b_one (s_if (t_w (k_and (t_eq hr (e_pv 4 (pv 4)) e_int) (k_and1 (t_eq hr (e_fz (e_lc (own := [("_law_one", 6)]) rfl scLsets.nd (j_l (e_pv 1 (pv 1))) (blkOk_by (N := nLsets) (sc := defScope sLsets) (by decide +kernel)) (fun _ _ _ _ _ => ⟨_, (g_nm (pg_name (i := 6) scLsets.nd rfl (by first | exact Or.inl rfl | exact Or.inr rfl)))⟩) (fun _ _ _ _ _ => ⟨_, (ts_one (t_eq hr (e_ix (e_pv 6 (pv 6)) e_int (fun _ _ => rfl)) e_str))⟩) (fun _ _ _ _ _ => ⟨_, (e_pv 6 (pv 6))⟩))) (e_fz (e_lst a_nil))))))
      (b_one (s_expr (e_app (e_pv 1 (pv 1)) (a_cons (e_tup (a_cons e_str (a_cons (e_call DLe hr (by rfl) (a_cons (e_pv 0 (pv 0)) (a_cons (e_pv 2 (pv 2)) a_nil))) (a_cons (e_call DLe hr (by rfl) (a_cons (e_pv 0 (pv 0)) (a_cons (e_pv 2 (pv 2)) a_nil))) a_nil)))) a_nil))))
      (b_one (s_expr (e_app (e_pv 1 (pv 1)) (a_cons (e_tup (a_cons (e_ix (e_fz (e_lst (a_cons e_str (a_cons e_str a_nil)))) (e_int1 (by rfl) T.b_int (a_cons (e_eq hr (e_pv 4 (pv 4)) e_int) a_nil)) (fun _ _ => rfl)) (a_cons (e_pv 5 (pv 5)) (a_cons (e_call DLe hr (by rfl) (a_cons (e_pv 0 (pv 0)) (a_cons (e_pv 2 (pv 2)) a_nil))) a_nil)))) a_nil)))))))))
      (b_one (s_ret (e_tupOf (by rfl) T.b_tuple (a_cons (e_pv 1 (pv 1)) a_nil))))))), ?_⟩)
  rintro ds μ Q E ⟨s, rfl, hS, h⟩
  walk_at "y"
  intro p hp
  walk_at "y"
  have hs0 := hS.ne hp
  have w0 := (TkW.refl hS).up (m := .lst []) hp
  refine ⟨s, _, rfl, w0.1, by omega, by omega, fun k1 μ1 k10 k11 t1 => ?_⟩
  have w1 := w0.tk t1
  have e1 : μ1 p = some (.lst []) := t1.keep mup_same hs0
  walk_at "y"
  refine ⟨s, _, rfl, w1.1, by omega, by omega, fun k2 μ2 k20 k21 t2 => ?_⟩
  have w2 := w1.tk t2
  have e2 : μ2 p = some (.lst []) := t2.keep e1 hs0
  obtain ⟨x, ex, mx, _⟩ := atI_ex (xs := [D.int 1, D.int 2, D.int 3, D.int 4, D.int 0]) k20 k21
  have hx : ∃ n : Int, x = .int n ∧ 0 ≤ n ∧ n ≤ 4 := by
    simp only [List.mem_cons, List.not_mem_nil, or_false] at mx
    rcases mx with rfl | rfl | rfl | rfl | rfl <;> exact ⟨_, rfl, by omega, by omega⟩
  obtain ⟨n, rfl, n0, n1⟩ := hx
  refine w_ixL ex ?_
  walk_at "y"
  refine Y.Cl.at (ρ' := start2 nLsets [.adr s, .adr p, .int (1 + k1)]) (by walk_at "less") Sub.refl (w_turns (fun xs ρ μ' => ∃ ss : List Lt, ρ = start2 nLsets [.adr s, .adr p, .int (1 + k1)] ∧ μ' p = some (.lst (ss.map ltD)) ∧ ss.length + xs.length ≤ 4 ∧ (∀ x ∈ ss, stDep x ≤ 3) ∧ TkW s μ μ') (fun _ _ _ _ => trivial) ?_ ?_ _ _ _ ⟨[], rfl, e2, by rw [rngD_len, List.length_nil]; omega, (fun x h => by cases h), w2⟩)
  · rintro d xs _ μ3 ⟨ss, rfl, e3, l3, d3, w3⟩ N hN
    rw [List.length_cons] at l3
    have next : ∀ (x : Lt) (μ' : Mu), stDep x ≤ 3 → μ' p = some (.lst (ss.map ltD ++ [ltD x])) → TkW s μ μ' → N (start2 nLsets [.adr s, .adr p, .int (1 + k1)]) μ' := fun x μ' hx e w =>
      hN _ _ ⟨ss ++ [x], rfl, by rw [List.map_append]; exact e, by rw [List.length_append, List.length_singleton]; omega, fun y hy => by
        rcases List.mem_append.mp hy with hy | hy
        · exact d3 y hy
        · rw [List.mem_singleton.mp hy]; exact hx, w⟩
    walk_at "y"
    refine ⟨s, _, rfl, w3.1, by omega, by omega, fun way μ4 y0 y1 t4 => ?_⟩
    have w4 := w3.tk t4
    have e4 := t4.keep e3 hs0
    walk_at "y"
    refine ⟨s, _, rfl, w4.1, by omega, by omega, fun k5 μ5 k50 k51 t5 => ?_⟩
    have w5 := w4.tk t5
    have e5 := t5.keep e4 hs0
    walk_at "y"
    refine ⟨s, _, rfl, w5.1, by omega, by omega, fun k6 μ6 k60 k61 t6 => ?_⟩
    have w6 := w5.tk t6
    have e6 := t6.keep e5 hs0
    walk_at "y"
    refine ⟨s, _, rfl, w6.1, by omega, by omega, fun k7 μ7 k70 k71 t7 => ?_⟩
    have w7 := w6.tk t7
    have e7 := t7.keep e6 hs0
    obtain ⟨x4, ex4, m4, _⟩ := atI_ex (xs := [D.tup [.str (Str.ofString "is"), .int k5], D.tup [.str (Str.ofString "by"), .int k6]]) k70 k71
    have h4 : ∃ sl : Ll, x4 = llD sl := by
      simp only [List.mem_cons, List.not_mem_nil, or_false] at m4
      rcases m4 with rfl | rfl
      · exact ⟨(false, k5), rfl⟩
      · exact ⟨(true, k6), rfl⟩
    obtain ⟨sl, rfl⟩ := h4
    refine w_ixL ex4 ?_
    walk_at "y"
    refine br_dec (fun h0 => ?_) (fun h0 => ?_)
    · walk_at "y"
      refine w_lcInv (fun xs acc μ' => ∃ rest got : List Lt, xs = rest.map ltD ∧ acc = got.map ltD ∧ (∀ x ∈ rest, stDep x ≤ 3) ∧ (∀ x ∈ got, stDep x ≤ 3) ∧ got.length + rest.length ≤ 4 ∧ μ' = μ7) ?_ ?_ ?_ _ _ _ ⟨ss, [], rfl, rfl, d3, (fun x h => by cases h), by rw [List.length_nil]; omega, rfl⟩
      · rintro xs acc _ ⟨rest, got, rfl, rfl, _, _, hle, rfl⟩
        refine ⟨asL_adr e7, sz_lt ?_⟩
        rw [List.length_map]; omega
      · rintro x xs acc _ ⟨rest, got, hx, rfl, dr, dg, hle, rfl⟩ N1 N0 hN1 hN0
        cases rest with
        | nil => cases hx
        | cons y rest =>
          injection hx with h3 h4
          subst h3
          rw [List.length_cons] at hle
          cases y with
          | cel a b =>
            rw [stD_cel]
            walk_at "y"
            refine hN1 _ _ ⟨rest, got ++ [.cel a b], h4, by rw [List.map_append]; rfl, fun z hz => dr z (List.mem_cons_of_mem _ hz), fun z hz => ?_, by rw [List.length_append, List.length_singleton]; omega, rfl⟩
            rcases List.mem_append.mp hz with hz | hz
            · exact dg z hz
            · rw [List.mem_singleton.mp hz]; exact dr _ List.mem_cons_self
          | put m sl2 e =>
            have hm : ¬ (if m then Str.ofString "mark" else Str.ofString "place") = Str.ofString "cell" := by cases m <;> decide +kernel
            rw [stD_put]
            walk_at "y"
            exact hN0 _ ⟨rest, got, h4, rfl, fun z hz => dr z (List.mem_cons_of_mem _ hz), dg, by omega, rfl⟩
      · rintro acc μx ⟨rest, got, hx, rfl, dr, dg, hle, e⟩ p2 hp2
        rw [e] at hp2 ⊢
        walk_at "y"
        refine w_eqD (shpA_all (n := 63) fun d hd => ?_) rfl ?_
        · obtain ⟨z, hz, rfl⟩ := List.mem_map.mp hd
          exact shp_le (shp_st z (dg z hz)) (by decide)
        walk_at "y"
        refine br_op (fun _ => ?_) (fun _ => ?_)
        · walk_at "y"
          refine ⟨s, _, rfl, by omega, w7.1, fun e8 μ8 he8 t8 => ?_⟩
          have w8 := w7.tk t8
          have e8' := t8.keep e7 hs0
          walk_at "y"
          refine ⟨s, _, rfl, by omega, w8.1, fun e9 μ9 he9 t9 => ?_⟩
          have w9 := w8.tk t9
          have e9' := t9.keep e8' hs0
          walk_at "y"
          exact Y.Cl.at (by walk_at "less") Sub.refl (next (.cel e8 e9) _ (by show max (dep e8) (dep e9) ≤ 3; omega) mup_same (w9.set hp hs0))
        · walk_at "y"
          obtain ⟨x8, ex8, m8, _⟩ := atI_ex (xs := [D.str (Str.ofString "place"), D.str (Str.ofString "mark")]) (k := if decide (way = 1) then 1 else 0) (by split <;> omega) (show _ < (2 : Int) by split <;> omega)
          have h8 : ∃ m : Bool, x8 = .str (if m then Str.ofString "mark" else Str.ofString "place") := by
            simp only [List.mem_cons, List.not_mem_nil, or_false] at m8
            rcases m8 with rfl | rfl
            · exact ⟨false, rfl⟩
            · exact ⟨true, rfl⟩
          obtain ⟨m, rfl⟩ := h8
          refine w_ixL ex8 ?_
          walk_at "y"
          refine ⟨s, _, rfl, by omega, w7.1, fun e8 μ8 he8 t8 => ?_⟩
          have w8 := w7.tk t8
          have e8' := t8.keep e7 hs0
          walk_at "y"
          exact Y.Cl.at (by walk_at "less") Sub.refl (next (.put m sl e8) _ he8 mup_same (w8.set hp hs0))
    · walk_at "y"
      obtain ⟨x8, ex8, m8, _⟩ := atI_ex (xs := [D.str (Str.ofString "place"), D.str (Str.ofString "mark")]) (k := if decide (way = 1) then 1 else 0) (by split <;> omega) (show _ < (2 : Int) by split <;> omega)
      have h8 : ∃ m : Bool, x8 = .str (if m then Str.ofString "mark" else Str.ofString "place") := by
        simp only [List.mem_cons, List.not_mem_nil, or_false] at m8
        rcases m8 with rfl | rfl
        · exact ⟨false, rfl⟩
        · exact ⟨true, rfl⟩
      obtain ⟨m, rfl⟩ := h8
      refine w_ixL ex8 ?_
      walk_at "y"
      refine ⟨s, _, rfl, by omega, w7.1, fun e8 μ8 he8 t8 => ?_⟩
      have w8 := w7.tk t8
      have e8' := t8.keep e7 hs0
      walk_at "y"
      exact Y.Cl.at (by walk_at "less") Sub.refl (next (.put m sl e8) _ he8 mup_same (w8.set hp hs0))
  · rintro _ μ3 ⟨ss, rfl, e3, l3, d3, w3⟩
    rw [List.length_nil] at l3
    walk_at "y"
    obtain ⟨μ9, g1, g2⟩ := w3.fix
    exact RtC.less g2 (h ss μ9 (by omega) d3 g1)

theorem w_in2 {z a b : Str} {Q : DK} {μ : Mu} (k : Bool) (hk : decide (z ∈ [a, b]) = k) (q : Q (.bl k) μ) : dIn (.str z) (.lst [.str a, .str b]) μ Q :=
  w_inS (ds := [a, b].map D.str) rfl rfl (flat_strs _) (by rw [inn_str, hk]; exact q)
theorem no2 {z a b : Str} (h : ¬ z = a) (g : ¬ z = b) : decide (z ∈ [a, b]) = false := decide_eq_false fun m => by
  rcases List.mem_cons.mp m with m | m
  · exact h m
  · exact g (List.mem_singleton.mp m)
theorem sort1 {ns : List Int} {a : Int} (h : ns.Perm [a]) : ns = [a] := List.perm_singleton.mp h
theorem sort2 {ns : List Int} {a b : Int} (h : ns.Perm [a, b]) (hs : ns.Pairwise (· ≤ ·)) : ns = if a ≤ b then [a, b] else [b, a] := by
  have hl := h.length_eq
  match ns, hl with
  | [x, y], _ =>
    have h1 : x ≤ y := (List.pairwise_cons.mp hs).1 y List.mem_cons_self
    have hx : x ∈ [a, b] := h.mem_iff.mp List.mem_cons_self
    have hy : y ∈ [a, b] := h.mem_iff.mp (List.mem_cons_of_mem _ List.mem_cons_self)
    have ha : a ∈ [x, y] := h.mem_iff.mpr List.mem_cons_self
    have hb : b ∈ [x, y] := h.mem_iff.mpr (List.mem_cons_of_mem _ List.mem_cons_self)
    simp only [List.mem_cons, List.not_mem_nil, or_false] at hx hy ha hb
    split
    · rw [show x = a by omega, show y = b by omega]
    · rw [show x = b by omega, show y = a by omega]
theorem trsD : ∀ (ss : List Lt) (b : Nat), (trs ss b).map (fun t => exD t.1) = ss.flatMap restL
  | [], _ => rfl
  | s :: ss, b => by
    show (treesL s b ++ trs ss (b + cntL s)).map _ = _
    rw [List.map_append, trsD ss, ← rest_trees]; rfl
/-! ### _law_own -/
def spLown : Sp2 := fun ds μ Q _ => ∃ r, ds = [rwD r] ∧ Q (.lst (natD (ownR r))) μ
theorem DLown (T : Tt K mg cc) : Df P w K mg base "_law_own" 1 ["_law_part_here"] (spLown) := by
  refine T.xLown.ok scLown (by rintro ds μ Q E ⟨r, rfl, q⟩ <;> rfl) (fun f cdv A outer s H E hr => ⟨_, _, (b_cons (s_if (t_in (e_ix (e_pv 0 (pv 0)) e_int (fun _ _ => rfl)) (e_fz (e_lst (a_cons e_str (a_cons e_str a_nil)))) (by rfl))
      (b_one (s_ret (e_fz (e_lst a_nil))))
      b_nil)
      (b_one (s_ret (e_fz (e_lc (own := [("_law_one", 1)]) rfl scLown.nd (j_t (e_fzL (e_slice (e_pv 0 (pv 0)) (o_some e_int) o_none))) (blkOk_by (N := nLown) (sc := defScope sLown) (by decide +kernel)) (fun _ _ _ _ _ => ⟨_, (g_nm (pg_name (i := 1) scLown.nd rfl (by first | exact Or.inl rfl | exact Or.inr rfl)))⟩) (fun _ _ _ _ _ => ⟨_, (ts_one (t_val (e_isi (by rfl) T.b_isinstance (a_cons (e_pv 1 (pv 1)) (a_cons (e_bty (n := "int") (by rfl) T.b_int (by decide +kernel)) a_nil)))))⟩) (fun _ _ _ _ _ => ⟨_, (e_pv 1 (pv 1))⟩)))))), ?_⟩)
  rintro ds μ Q E ⟨r, rfl, q⟩
  cases r with
  | get s =>
    unfold rwD
    walk_at "yc"
    refine w_in2 true (by decide +kernel) ?_
    walk_at "yc"
    exact RtC.same q
  | ask s =>
    unfold rwD
    walk_at "yc"
    refine w_in2 true (by decide +kernel) ?_
    walk_at "yc"
    exact RtC.same q
  | cell r =>
    unfold rwD
    cases r with
    | k c =>
      unfold rfD
      walk_at "yc"
      refine w_in2 false (by decide +kernel) ?_
      walk_at "yc"
      exact RtC.same q
    | n i =>
      unfold rfD
      walk_at "yc"
      refine w_in2 false (by decide +kernel) ?_
      walk_at "yc"
      exact RtC.same q
  | two o a b =>
    obtain ⟨o1, o2, o3, o4, o5, o6, o7⟩ := op_no o
    unfold rwD
    cases a <;> cases b
    all_goals
      unfold rfD
      walk_at "yc"
      refine w_in2 false (no2 o6 o7) ?_
      walk_at "yc"
      exact RtC.same q
theorem rest_len : ∀ ss : List Lt, (ss.flatMap restL).length ≤ 2 * ss.length
  | [] => Nat.le_refl _
  | s :: ss => by
    rw [List.flatMap_cons, List.length_append, List.length_cons]
    have h1 := rest_len ss
    have h2 : (restL s).length ≤ 2 := by cases s <;> exact Nat.le_of_ble_eq_true rfl
    omega
theorem rest_snoc (dn : List Lt) (s : Lt) : (dn ++ [s]).flatMap restL = dn.flatMap restL ++ restL s := by
  rw [List.flatMap_append, List.flatMap_cons, List.flatMap_nil, List.append_nil]
theorem pk_spec : ∀ (l : List Nat) (k : Nat), (∀ i n, l[i]? = some n → k + i + n ≤ pk k l) ∧ (pk k l = 0 ∨ ∃ i n, l[i]? = some n ∧ pk k l = k + i + n)
  | [], _ => ⟨(fun i n h => by cases h), .inl rfl⟩
  | m :: l, k => by
    obtain ⟨h1, h2⟩ := pk_spec l (k + 1)
    have e : pk k (m :: l) = max (k + m) (pk (k + 1) l) := rfl
    refine ⟨fun i n h => ?_, ?_⟩
    · cases i with
      | zero =>
        have h3 : m = n := by injection h
        subst h3; rw [e]; omega
      | succ i =>
        have := h1 i n h
        rw [e]; omega
    · by_cases hc : pk (k + 1) l ≤ k + m
      · exact .inr ⟨0, m, rfl, by rw [e]; omega⟩
      · rcases h2 with h2 | ⟨i, n, h2, h3⟩
        · omega
        · exact .inr ⟨i + 1, n, h2, by rw [e]; omega⟩
theorem need_fall (ss : List Lt) : ((fallT ss).map fun t => need t.1).Perm (((trs ss 0).map fun t => need t.1).filter fun n => decide (0 < n)) := by
  rw [List.filter_map]
  refine ((fall_perm ss).map _).trans ?_
  have e : ncs (trs ss 0) = (trs ss 0).filter ((fun n => decide (0 < n)) ∘ fun t => need t.1) := List.filter_congr fun t _ => by
    show (!isC t.1) = decide (0 < need t.1)
    cases hc : isC t.1 with
    | true => rw [need_c hc]; rfl
    | false => exact (decide_eq_true (need_pos hc)).symm
  rw [← e]
theorem fm_need : ∀ l : List (Ex × Nat), (l.filterMap fun t => if 0 < need t.1 then some (D.int ((need t.1 : Nat) : Int)) else none) = (((l.map fun t => need t.1).filter fun n => decide (0 < n)).map fun n : Nat => (n : Int)).map D.int
  | [] => rfl
  | t :: l => by
    rw [List.filterMap_cons, List.map_cons, List.filter_cons, fm_need l]
    by_cases h : 0 < need t.1
    · rw [if_pos h, if_pos (decide_eq_true h)]; rfl
    · rw [if_neg h, if_neg (fun z => h (of_decide_eq_true z))]
theorem desc_uniqI : ∀ {a b : List Int}, a.Perm b → a.Pairwise (fun x y => y ≤ x) → b.Pairwise (fun x y => y ≤ x) → a = b
  | [], b, p, _, _ => (List.nil_perm.mp p).symm
  | x :: a, [], p, _, _ => by have := p.length_eq; cases this
  | x :: a, y :: b, p, h, g => by
    obtain ⟨h1, h2⟩ := List.pairwise_cons.mp h
    obtain ⟨g1, g2⟩ := List.pairwise_cons.mp g
    have e : x = y := by
      have l1 : y ≤ x := by
        rcases List.mem_cons.mp (p.mem_iff.mpr (List.mem_cons_self (a := y) (l := b))) with e | m
        · omega
        · exact h1 y m
      have l2 : x ≤ y := by
        rcases List.mem_cons.mp (p.mem_iff.mp (List.mem_cons_self (a := x) (l := a))) with e | m
        · omega
        · exact g1 x m
      omega
    subst e
    rw [desc_uniqI ((List.perm_cons x).mp p) h2 g2]
theorem need_desc {ss : List Lt} {ns : List Int} (h : ns.Perm ((((trs ss 0).map fun t => need t.1).filter fun n => decide (0 < n)).map fun n : Nat => (n : Int))) (hs : ns.Pairwise (· ≤ ·)) : ns.reverse = ((fallT ss).map fun t => need t.1).map fun n : Nat => (n : Int) := by
  refine desc_uniqI ((List.reverse_perm ns).trans (h.trans ((need_fall ss).map _).symm)) (List.pairwise_reverse.mpr hs) ?_
  rw [List.pairwise_map]
  exact (fall_desc ss).imp fun h => by omega
/-! a lower bound: whatever the order, as many values are held at some time as are needed -/
abbrev InR (t : Ex × Nat) (v : Nat) : Prop := t.2 ≤ v ∧ v < t.2 + cnt t.1
theorem rfO_ge {e : Ex} {b o : Nat} (h : o ∈ rfO (rfE e b)) : b ≤ o ∧ o < b + cnt e := by
  rw [rfO_E] at h
  cases hc : isC e with
  | true => rw [hc, if_pos rfl] at h; cases h
  | false =>
    rw [hc, if_neg Bool.false_ne_true, List.mem_singleton] at h
    have := cnt_pos hc; omega
section
variable {own : Nat → List Nat}
theorem own_in : ∀ (e : Ex) (b : Nat), At own e b → ∀ n, InR (e, b) n → ∀ o ∈ own n, InR (e, b) o
  | .num _, _, _, n, h, _, _ => by have : n < _ + 0 := h.2; have h1 := h.1; dsimp only at h1; omega
  | .fld _, _, _, n, h, _, _ => by have : n < _ + 0 := h.2; have h1 := h.1; dsimp only at h1; omega
  | .plc s, b, hA, n, h, o, ho => by
    have h1 : b ≤ n := h.1
    have h2 : n < b + 1 := h.2
    have e : n = b := by omega
    subst e
    rw [show own n = [] from hA 0 (.get s) rfl] at ho; cases ho
  | .mrk s, b, hA, n, h, o, ho => by
    have h1 : b ≤ n := h.1
    have h2 : n < b + 1 := h.2
    have e : n = b := by omega
    subst e
    rw [show own n = [] from hA 0 (.ask s) rfl] at ho; cases ho
  | .cel e, b, hA, n, h, o, ho => by
    obtain ⟨hA1, h0⟩ := hA.cel
    have h1 : b ≤ n := h.1
    have h2 : n < b + (cnt e + 1) := h.2
    show b ≤ o ∧ o < b + (cnt e + 1)
    by_cases hn : n < b + cnt e
    · have := own_in e b hA1 n ⟨h1, hn⟩ o ho
      have a1 : b ≤ o := this.1
      have a2 : o < b + cnt e := this.2
      omega
    · have e2 : n = b + cnt e := by omega
      subst e2
      rw [h0] at ho
      have := rfO_ge ho; omega
  | .op op x y, b, hA, n, h, o, ho => by
    obtain ⟨hAx, hAy, h0⟩ := hA.op
    have h1 : b ≤ n := h.1
    have h2 : n < b + (cnt x + cnt y + 1) := h.2
    show b ≤ o ∧ o < b + (cnt x + cnt y + 1)
    by_cases hn : n < b + cnt x
    · have := own_in x b hAx n ⟨h1, hn⟩ o ho
      have a1 : b ≤ o := this.1
      have a2 : o < b + cnt x := this.2
      omega
    · by_cases hm : n < b + cnt x + cnt y
      · have := own_in y (b + cnt x) hAy n ⟨by show b + cnt x ≤ n; omega, by show n < b + cnt x + cnt y; omega⟩ o ho
        have a1 : b + cnt x ≤ o := this.1
        have a2 : o < b + cnt x + cnt y := this.2
        omega
      · have e2 : n = b + cnt x + cnt y := by omega
        subst e2
        rw [h0] at ho
        rcases List.mem_append.mp ho with ho | ho <;> (have := rfO_ge ho; omega)
theorem stays (R : Nat → Prop) : ∀ (r lv : List Nat), (∃ v ∈ lv, R v) → (∀ n ∈ r, R n ∨ ∀ o ∈ own n, ¬ R o) → ∃ v ∈ lvS own lv r, R v
  | [], _, h, _ => h
  | n :: r, lv, ⟨v, hv, hR⟩, h => by
    refine stays R r _ ?_ fun m hm => h m (List.mem_cons_of_mem _ hm)
    rcases h n List.mem_cons_self with hn | hn
    · exact ⟨n, List.mem_cons_self, hn⟩
    · exact ⟨v, List.mem_cons_of_mem _ (List.mem_filter.mpr ⟨hv, by rw [Bool.not_eq_true', decide_eq_false_iff_not]; exact fun z => hn v z hR⟩), hR⟩
theorem OkS_split : ∀ {p r lv : List Nat}, OkS own lv (p ++ r) → OkS own lv p ∧ OkS own (lvS own lv p) r
  | [], _, _, h => ⟨trivial, h⟩
  | _ :: p, r, lv, h => by
    obtain ⟨h1, h2, h3, h4⟩ := h
    obtain ⟨k1, k2⟩ := OkS_split h4
    exact ⟨⟨h1, h2, h3, k1⟩, k2⟩
theorem lv_sub : ∀ (q lv : List Nat) (v : Nat), v ∈ lvS own lv q → v ∈ lv ∨ v ∈ q
  | [], _, _, h => .inl h
  | n :: q, lv, v, h => by
    rcases lv_sub q _ v h with h | h
    · rcases List.mem_cons.mp h with rfl | h
      · exact .inr List.mem_cons_self
      · exact .inl (List.mem_filter.mp h).1
    · exact .inr (List.mem_cons_of_mem _ h)
abbrev cN (t : Ex × Nat) (l : List Nat) : Nat := l.countP fun v => decide (InR t v)
theorem cN_pos {t : Ex × Nat} {l : List Nat} (h : ∃ v ∈ l, InR t v) : 1 ≤ cN t l := by
  obtain ⟨v, hv, h⟩ := h
  exact List.countP_pos_iff.mpr ⟨v, hv, decide_eq_true h⟩
theorem cN_ex {t : Ex × Nat} {l : List Nat} (h : 1 ≤ cN t l) : ∃ v ∈ l, InR t v := by
  obtain ⟨v, hv, h⟩ := List.countP_pos_iff.mp h
  exact ⟨v, hv, of_decide_eq_true h⟩
theorem cnt_two {p q r : Nat → Bool} (h1 : ∀ v, p v = true → r v = true ∧ q v = false) (h2 : ∀ v, q v = true → r v = true) : ∀ l : List Nat, l.countP p + l.countP q ≤ l.countP r
  | [] => Nat.le_refl _
  | v :: l => by
    have ih := cnt_two h1 h2 l
    rw [List.countP_cons, List.countP_cons, List.countP_cons]
    cases hp : p v with
    | true =>
      obtain ⟨a, b⟩ := h1 v hp
      rw [a, b]; simp only [if_true, Bool.false_eq_true, if_false]; omega
    | false =>
      cases hq : q v with
      | true => rw [h2 v hq]; simp only [if_true, Bool.false_eq_true, if_false]; omega
      | false => simp only [Bool.false_eq_true, if_false]; split <;> omega
theorem cN_mono {t u : Ex × Nat} (h : ∀ v, InR t v → InR u v) (l : List Nat) : cN t l ≤ cN u l :=
  List.countP_mono_left fun v _ hv => decide_eq_true (h v (of_decide_eq_true hv))
/-- two beginnings of one list -/
theorem pre_two {p q r q' r' : List Nat} (h : p = q ++ r) (h' : p = q' ++ r') : (∃ m, q' = q ++ m) ∨ ∃ m, q = q' ++ m := by
  have e : q ++ r = q' ++ r' := h ▸ h'
  rcases List.append_eq_append_iff.mp e with ⟨m, h1, _⟩ | ⟨m, h1, _⟩
  · exact .inl ⟨m, h1⟩
  · exact .inr ⟨m, h1⟩
/-- parts that touch a tree are its own -/
def Loc (own : Nat → List Nat) (t : Ex × Nat) (p : List Nat) : Prop := ∀ n ∈ p, InR t n ∨ ∀ o ∈ own n, ¬ InR t o
theorem Loc.app {t : Ex × Nat} {p q r : List Nat} (h : Loc own t p) (e : p = q ++ r) : Loc own t q := fun n hn => h n (by rw [e]; exact List.mem_append_left _ hn)
/-- once begun a tree has something held -/
theorem going {t : Ex × Nat} {p q m r : List Nat} (hL : Loc own t p) (e : p = q ++ m ++ r) (h : ∃ v ∈ lvS own [] q, InR t v) : ∃ v ∈ lvS own [] (q ++ m), InR t v := by
  rw [lvS_app]
  exact stays _ m _ h fun n hn => hL n (by rw [e]; exact List.mem_append_left _ (List.mem_append_right _ hn))
/-- the part done stands at the front -/
theorem one_at {t : Ex × Nat} {p : List Nat} {n : Nat} (hn : n ∈ p) (hR : InR t n) : ∃ q r, p = q ++ r ∧ 1 ≤ cN t (lvS own [] q) := by
  obtain ⟨a, b, rfl⟩ := List.append_of_mem hn
  refine ⟨a ++ [n], b, by rw [List.append_assoc]; rfl, cN_pos ⟨n, ?_, hR⟩⟩
  rw [lvS_snoc]; exact List.mem_cons_self
/-- both have something held, one of them as much as it needs -/
theorem later {t u w : Ex × Nat} {p : List Nat} {m k : Nat} (ht : Loc own t p) (hu : Loc own u p) (hd : ∀ v, InR t v → ¬ InR u v) (h1 : ∀ v, InR t v → InR w v) (h2 : ∀ v, InR u v → InR w v) (hm : 1 ≤ m) (hk : 1 ≤ k)
    (g1 : ∃ q r, p = q ++ r ∧ m ≤ cN t (lvS own [] q)) (g2 : ∃ q r, p = q ++ r ∧ k ≤ cN u (lvS own [] q)) : ∃ q r, p = q ++ r ∧ min m k + 1 ≤ cN w (lvS own [] q) := by
  have two : ∀ l, cN t l + cN u l ≤ cN w l := fun l => cnt_two (fun v hv => ⟨decide_eq_true (h1 v (of_decide_eq_true hv)), decide_eq_false (hd v (of_decide_eq_true hv))⟩) (fun v hv => decide_eq_true (h2 v (of_decide_eq_true hv))) l
  obtain ⟨q, r, e, hq⟩ := g1
  obtain ⟨q', r', e', hq'⟩ := g2
  rcases pre_two e e' with ⟨x, hx⟩ | ⟨x, hx⟩
  · refine ⟨q', r', e', ?_⟩
    have a := cN_pos (going ht (q := q) (m := x) (r := r') (by rw [← hx]; exact e') (cN_ex (by omega)))
    rw [← hx] at a
    have := two (lvS own [] q'); omega
  · refine ⟨q, r, e, ?_⟩
    have a := cN_pos (going hu (q := q') (m := x) (r := r) (by rw [← hx]; exact e) (cN_ex (by omega)))
    rw [← hx] at a
    have := two (lvS own [] q); omega
theorem at_least {w t : Ex × Nat} {p p1 p2 : List Nat} {m : Nat} (h : ∀ v, InR t v → InR w v) (e : p = p1 ++ p2) (g : ∃ q r, p1 = q ++ r ∧ m ≤ cN t (lvS own [] q)) : ∃ q r, p = q ++ r ∧ m ≤ cN w (lvS own [] q) := by
  obtain ⟨q, r, e1, h1⟩ := g
  exact ⟨q, r ++ p2, by rw [e, e1, List.append_assoc], Nat.le_trans h1 (cN_mono h _)⟩
/-- a tree alone -/
theorem peak : ∀ (e : Ex) (b : Nat), At own e b → isC e = false → ∀ p, OkS own [] p → p.Nodup → (b + cnt e - 1) ∈ p → Loc own (e, b) p → ∃ q r, p = q ++ r ∧ need e ≤ cN (e, b) (lvS own [] q)
  | .num _, _, _, h, _, _, _, _, _ => by cases h
  | .fld _, _, _, h, _, _, _, _, _ => by cases h
  | .plc s, b, hA, _, p, h1, h2, h3, h4 => one_at (t := (.plc s, b)) h3 ⟨Nat.le_refl _, Nat.lt_succ_self _⟩
  | .mrk s, b, hA, _, p, h1, h2, h3, h4 => one_at (t := (.mrk s, b)) h3 ⟨Nat.le_refl _, Nat.lt_succ_self _⟩
  | .cel e, b, hA, _, p, h1, h2, h3, h4 => by
    obtain ⟨hA1, h0⟩ := hA.cel
    rw [show b + cnt (.cel e) - 1 = b + cnt e from rfl] at h3
    have hone := one_at (own := own) (t := (.cel e, b)) h3 ⟨by show b ≤ b + cnt e; omega, by show b + cnt e < b + (cnt e + 1); omega⟩
    show ∃ q r, p = q ++ r ∧ max 1 (need e) ≤ _
    cases hc : isC e with
    | true => rw [need_c hc]; exact hone
    | false =>
      have hp := need_pos hc
      have hcp := cnt_pos hc
      obtain ⟨p1, p2, ep⟩ := List.append_of_mem h3
      have hk := OkS_split (ep ▸ h1)
      rw [rfO_E, hc, if_neg Bool.false_ne_true] at h0
      have hr : b + cnt e - 1 ∈ p1 := by
        rcases lv_sub p1 [] _ (hk.2.1 (b + cnt e - 1) (by rw [h0]; exact List.mem_cons_self)) with h | h
        · cases h
        · exact h
      have hnd := List.nodup_append.mp (ep ▸ h2)
      have hL : Loc own (e, b) p1 := fun n hn => by
        rcases h4.app ep n hn with h | h
        · left
          have a1 : b ≤ n := h.1
          have a2 : n < b + (cnt e + 1) := h.2
          have a3 : n ≠ b + cnt e := hnd.2.2 n hn _ List.mem_cons_self
          exact ⟨a1, by show n < b + cnt e; omega⟩
        · exact .inr fun o ho z => h o ho ⟨z.1, by have : o < b + cnt e := z.2; show o < b + (cnt e + 1); omega⟩
      have := peak e b hA1 hc p1 hk.1 hnd.1 hr hL
      rw [Nat.max_eq_right hp]
      exact at_least (t := (e, b)) (fun v z => ⟨z.1, by have : v < b + cnt e := z.2; show v < b + (cnt e + 1); omega⟩) ep this
  | .op o x y, b, hA, _, p, h1, h2, h3, h4 => by
    obtain ⟨hAx, hAy, h0⟩ := hA.op
    rw [show b + cnt (.op o x y) - 1 = b + cnt x + cnt y by show b + (cnt x + cnt y + 1) - 1 = _; omega] at h3
    have hone := one_at (own := own) (t := (.op o x y, b)) h3 ⟨by show b ≤ b + cnt x + cnt y; omega, by show b + cnt x + cnt y < b + (cnt x + cnt y + 1); omega⟩
    obtain ⟨p1, p2, ep⟩ := List.append_of_mem h3
    have hk := OkS_split (ep ▸ h1)
    have hnd := List.nodup_append.mp (ep ▸ h2)
    rw [rfO_E, rfO_E] at h0
    have sx : ∀ v, InR (x, b) v → InR (.op o x y, b) v := fun v z => ⟨z.1, by have : v < b + cnt x := z.2; show v < b + (cnt x + cnt y + 1); omega⟩
    have sy : ∀ v, InR (y, b + cnt x) v → InR (.op o x y, b) v := fun v z => ⟨by have : b + cnt x ≤ v := z.1; show b ≤ v; omega, by have : v < b + cnt x + cnt y := z.2; show v < b + (cnt x + cnt y + 1); omega⟩
    have hin : ∀ n ∈ p1, InR (x, b) n ∨ InR (y, b + cnt x) n ∨ ∀ k ∈ own n, ¬ InR (.op o x y, b) k := fun n hn => by
      rcases h4.app ep n hn with h | h
      · have a1 : b ≤ n := h.1
        have a2 : n < b + (cnt x + cnt y + 1) := h.2
        have a3 : n ≠ b + cnt x + cnt y := hnd.2.2 n hn _ List.mem_cons_self
        by_cases hn2 : n < b + cnt x
        · exact .inl ⟨a1, hn2⟩
        · exact .inr (.inl ⟨by show b + cnt x ≤ n; omega, by show n < b + cnt x + cnt y; omega⟩)
      · exact .inr (.inr h)
    have dj : ∀ v, InR (x, b) v → ¬ InR (y, b + cnt x) v := fun v z w => by
      have : v < b + cnt x := z.2
      have : b + cnt x ≤ v := w.1
      omega
    have hLx : Loc own (x, b) p1 := fun n hn => by
      rcases hin n hn with h | h | h
      · exact .inl h
      · exact .inr fun k hk z => dj k z (own_in y _ hAy n h k hk)
      · exact .inr fun k hk z => h k hk (sx k z)
    have hLy : Loc own (y, b + cnt x) p1 := fun n hn => by
      rcases hin n hn with h | h | h
      · exact .inr fun k hk z => dj k (own_in x _ hAx n h k hk) z
      · exact .inl h
      · exact .inr fun k hk z => h k hk (sy k z)
    have gx : isC x = false → ∃ q r, p1 = q ++ r ∧ need x ≤ cN (x, b) (lvS own [] q) := fun hc => by
      refine peak x b hAx hc p1 hk.1 hnd.1 ?_ hLx
      rcases lv_sub p1 [] _ (hk.2.1 (b + cnt x - 1) (by rw [h0, hc, if_neg Bool.false_ne_true]; exact List.mem_cons_self)) with h | h
      · cases h
      · exact h
    have gy : isC y = false → ∃ q r, p1 = q ++ r ∧ need y ≤ cN (y, b + cnt x) (lvS own [] q) := fun hc => by
      refine peak y (b + cnt x) hAy hc p1 hk.1 hnd.1 ?_ hLy
      rcases lv_sub p1 [] _ (hk.2.1 (b + cnt x + cnt y - 1) (by rw [h0, hc, if_neg Bool.false_ne_true]; exact List.mem_append_right _ List.mem_cons_self)) with h | h
      · cases h
      · exact h
    show ∃ q r, p = q ++ r ∧ nd2 (need x) (need y) ≤ _
    cases hx : isC x with
    | true =>
      rw [need_c hx]
      cases hy : isC y with
      | true => rw [need_c hy]; exact hone
      | false =>
        have hp := need_pos hy
        rw [show nd2 0 (need y) = need y by unfold nd2; split <;> omega]
        exact at_least sy ep (gy hy)
    | false =>
      have hpx := need_pos hx
      cases hy : isC y with
      | true =>
        rw [need_c hy, show nd2 (need x) 0 = need x by unfold nd2; split <;> omega]
        exact at_least sx ep (gx hx)
      | false =>
        have hpy := need_pos hy
        by_cases he : need x = need y
        · rw [show nd2 (need x) (need y) = min (need x) (need y) + 1 by unfold nd2; split <;> omega]
          exact at_least (fun v z => z) ep (later hLx hLy dj sx sy hpx hpy (gx hx) (gy hy))
        · rcases Nat.lt_or_gt_of_ne he with hl | hl
          · rw [show nd2 (need x) (need y) = need y by unfold nd2; split <;> omega]
            exact at_least sy ep (gy hy)
          · rw [show nd2 (need x) (need y) = need x by unfold nd2; split <;> omega]
            exact at_least sx ep (gx hx)
/-- some trees apart -/
def InT (ts : List (Ex × Nat)) (v : Nat) : Bool := ts.any fun t => decide (InR t v)
theorem forest {m : Nat} (hm : 1 ≤ m) {p : List Nat} (h1 : OkS own [] p) (h2 : p.Nodup) : ∀ ts : List (Ex × Nat), ts ≠ [] → ts.Pairwise Apart → (∀ t ∈ ts, At own t.1 t.2 ∧ isC t.1 = false ∧ m ≤ need t.1 ∧ rnum t ∈ p ∧ Loc own t p) →
    ∃ q r, p = q ++ r ∧ (∀ t ∈ ts, ∃ v ∈ lvS own [] q, InR t v) ∧ m + ts.length ≤ (lvS own [] q).countP (InT ts) + 1
  | [], h, _, _ => absurd rfl h
  | [t], _, _, h => by
    obtain ⟨a1, a2, a3, a4, a5⟩ := h t List.mem_cons_self
    obtain ⟨q, r, e, g⟩ := peak t.1 t.2 a1 a2 p h1 h2 a4 a5
    refine ⟨q, r, e, fun u hu => ?_, ?_⟩
    · rw [List.mem_singleton.mp hu]; exact cN_ex (by have := need_pos a2; exact Nat.le_trans this g)
    · have e2 : InT [t] = fun v => decide (InR t v) := funext fun v => by unfold InT; rw [List.any_cons, List.any_nil, Bool.or_false]
      rw [e2]
      have : need t.1 ≤ (lvS own [] q).countP fun v => decide (InR t v) := g
      rw [List.length_singleton]; omega
  | t :: u :: ts, _, hp, h => by
    obtain ⟨a1, a2, a3, a4, a5⟩ := h t List.mem_cons_self
    obtain ⟨p1, p2⟩ := List.pairwise_cons.mp hp
    obtain ⟨q, r, e, g⟩ := peak t.1 t.2 a1 a2 p h1 h2 a4 a5
    obtain ⟨q', r', e', g1, g2⟩ := forest hm h1 h2 (u :: ts) (by simp) p2 fun w hw => h w (List.mem_cons_of_mem _ hw)
    have two : ∀ l : List Nat, cN t l + l.countP (InT (u :: ts)) ≤ l.countP (InT (t :: u :: ts)) := fun l => cnt_two (r := InT (t :: u :: ts)) (fun v hv => by
        have hv2 := of_decide_eq_true hv
        refine ⟨by unfold InT; rw [List.any_cons, hv, Bool.true_or], ?_⟩
        unfold InT
        rw [List.any_eq_false]
        intro w hw z
        have z2 := of_decide_eq_true z
        have b1 := hv2.1
        have b2 := hv2.2
        have c1 := z2.1
        have c2 := z2.2
        rcases p1 w hw with q | q <;> omega)
      (fun v hv => by unfold InT at hv ⊢; rw [List.any_cons, hv, Bool.or_true]) l
    have hsum : ∀ l : List Nat, (∀ w ∈ u :: ts, ∃ v ∈ l, InR w v) → (u :: ts).length ≤ l.countP (InT (u :: ts)) := by
      have key : ∀ (l : List Nat) (ws : List (Ex × Nat)), ws.Pairwise Apart → (∀ w ∈ ws, ∃ v ∈ l, InR w v) → ws.length ≤ l.countP (InT ws) := by
        intro l ws
        induction ws with
        | nil => intro _ _; exact Nat.zero_le _
        | cons w ws ih =>
          intro hp hw
          obtain ⟨p1, p2⟩ := List.pairwise_cons.mp hp
          have a := ih p2 fun x hx => hw x (List.mem_cons_of_mem _ hx)
          have b := cN_pos (hw w List.mem_cons_self)
          have c : cN w l + l.countP (InT ws) ≤ l.countP (InT (w :: ws)) := cnt_two (r := InT (w :: ws)) (fun v hv => by
              have hv2 := of_decide_eq_true hv
              refine ⟨by unfold InT; rw [List.any_cons, hv, Bool.true_or], ?_⟩
              unfold InT
              rw [List.any_eq_false]
              intro w hw z
              have z2 := of_decide_eq_true z
              have b1 := hv2.1
              have b2 := hv2.2
              have c1 := z2.1
              have c2 := z2.2
              rcases p1 w hw with q | q <;> omega)
            (fun v hv => by unfold InT at hv ⊢; rw [List.any_cons, hv, Bool.or_true]) l
          rw [List.length_cons]; omega
      exact fun l hl => key l (u :: ts) p2 hl
    have hq : m ≤ cN t (lvS own [] q) := Nat.le_trans a3 g
    rcases pre_two e e' with ⟨x, hx⟩ | ⟨x, hx⟩
    · have ht := going a5 (q := q) (m := x) (r := r') (by rw [← hx]; exact e') (cN_ex (by omega))
      rw [← hx] at ht
      refine ⟨q', r', e', fun w hw => ?_, ?_⟩
      · rcases List.mem_cons.mp hw with rfl | hw
        · exact ht
        · exact g1 w hw
      · have a := cN_pos ht
        have b := two (lvS own [] q')
        rw [List.length_cons]; omega
    · have hw : ∀ w ∈ u :: ts, ∃ v ∈ lvS own [] q, InR w v := fun w hw => by
        have := going (h w (List.mem_cons_of_mem _ hw)).2.2.2.2 (q := q') (m := x) (r := r) (by rw [← hx]; exact e) (g1 w hw)
        rw [← hx] at this; exact this
      refine ⟨q, r, e, fun w hw2 => ?_, ?_⟩
      · rcases List.mem_cons.mp hw2 with rfl | hw2
        · exact cN_ex (by omega)
        · exact hw w hw2
      · have a := hsum _ hw
        have b := two (lvS own [] q)
        rw [List.length_cons]; omega
theorem mx_ge : ∀ (q r lv : List Nat), q ≠ [] → (lvS own lv q).length ≤ mxS own lv (q ++ r)
  | [], _, _, h => absurd rfl h
  | [n], r, lv, _ => Nat.le_max_left _ _
  | n :: m :: q, r, lv, _ => Nat.le_trans (mx_ge (m :: q) r _ (by simp)) (Nat.le_max_right _ _)
end
theorem row_cover : ∀ {ts : List (Ex × Nat)} {b n : Nat}, Row b ts → b ≤ n → n < b + (rwT ts).length → ∃ u ∈ ts, InR u n
  | [], b, n, _, h1, h2 => by
    have : (rwT []).length = 0 := rfl
    omega
  | u :: ts, b, n, h, h1, h2 => by
    have e : (rwT (u :: ts)).length = cnt u.1 + (rwT ts).length := by rw [rwT_len, rwT_len, List.map_cons, List.sum_cons]
    have hu := h.1
    by_cases hn : n < b + cnt u.1
    · exact ⟨u, List.mem_cons_self, by omega, by omega⟩
    · obtain ⟨w, hw, hr⟩ := row_cover h.2 (show b + cnt u.1 ≤ n by omega) (by omega)
      exact ⟨w, List.mem_cons_of_mem _ hw, hr⟩
theorem apart_of : ∀ {ts : List (Ex × Nat)}, ts.Pairwise Apart → ∀ t ∈ ts, ∀ u ∈ ts, t = u ∨ Apart t u
  | [], _, t, h, _, _ => by cases h
  | w :: ts, hp, t, ht, u, hu => by
    obtain ⟨p1, p2⟩ := List.pairwise_cons.mp hp
    rcases List.mem_cons.mp ht with e1 | ht
    · rcases List.mem_cons.mp hu with e2 | hu
      · exact .inl (e1.trans e2.symm)
      · exact .inr (e1 ▸ p1 u hu)
    · rcases List.mem_cons.mp hu with e2 | hu
      · exact .inr (e2 ▸ (p1 t ht).elim .inr .inl)
      · exact apart_of p2 t ht u hu
/-- whatever the order -/
theorem low_bound (ss : List Lt) {p : List Nat} (h1 : OkS (ownL (rowsS ss)) [] p) (h2 : p.Perm (List.range (rowsS ss).length)) : pk 0 ((fallT ss).map fun t => need t.1) ≤ mxS (ownL (rowsS ss)) [] p := by
  rcases (pk_spec ((fallT ss).map fun t => need t.1) 0).2 with h | ⟨i, n, h3, h4⟩
  · rw [h]; exact Nat.zero_le _
  · have hm : ∀ t ∈ fallT ss, t ∈ trs ss 0 ∧ isC t.1 = false := fun t ht => by
      have h := (fall_perm ss).mem_iff.mp ht
      obtain ⟨h1, h2⟩ := List.mem_filter.mp h
      exact ⟨h1, by simpa using h2⟩
    have hp : (fallT ss).Pairwise Apart := by
      have h : (ncs (trs ss 0)).Pairwise Apart := (row_apart (trs_row ss 0)).filter _
      exact ((fall_perm ss).pairwise_iff (fun {a b} h => h.elim .inr .inl)).mpr h
    have hi : i < (fallT ss).length := by have := (List.getElem?_eq_some_iff.mp h3).1; rwa [List.length_map] at this
    have hnd : p.Nodup := h2.nodup_iff.mpr List.nodup_range
    have hdesc := fall_desc ss
    have hin : ∀ x, x < (rowsS ss).length → x ∈ p := fun x hx => h2.mem_iff.mpr (List.mem_range.mpr hx)
    have hmem : ∀ t ∈ (fallT ss).take (i + 1), n ≤ need t.1 := fun t ht => by
      obtain ⟨j, hj, e⟩ := List.mem_take_iff_getElem.mp ht
      have hj2 : j < (fallT ss).length := by omega
      have hn : n = need ((fallT ss)[i]).1 := by
        rw [List.getElem?_map, List.getElem?_eq_getElem hi] at h3
        exact (Option.some.inj h3).symm
      by_cases hji : j = i
      · subst hji; rw [← e, hn]; exact Nat.le_refl _
      · have := List.pairwise_iff_getElem.mp hdesc j i (by rw [List.length_map]; exact hj2) (by rw [List.length_map]; exact hi) (by omega)
        rw [List.getElem_map, List.getElem_map] at this
        rw [← e, hn]; exact this
    have hn1 : 1 ≤ n := by
      have hn : n = need ((fallT ss)[i]).1 := by
        rw [List.getElem?_map, List.getElem?_eq_getElem hi] at h3
        exact (Option.some.inj h3).symm
      rw [hn]
      exact need_pos (hm _ (List.getElem_mem hi)).2
    have hlen : ((fallT ss).take (i + 1)).length = i + 1 := by rw [List.length_take]; omega
    obtain ⟨q, r, e, _, g⟩ := forest (own := ownL (rowsS ss)) hn1 h1 hnd ((fallT ss).take (i + 1)) (fun z => by rw [z] at hlen; cases hlen) (hp.sublist (List.take_sublist _ _)) fun t ht => by
      have ht2 := List.mem_of_mem_take ht
      obtain ⟨k1, k2⟩ := hm t ht2
      have hlo := row_lo (trs_row ss 0) t k1
      have hc := cnt_pos k2
      have hl : (rwT (trs ss 0)).length = (rowsS ss).length := rfl
      refine ⟨trs_at ss t k1, k2, hmem t ht, hin _ (by show t.2 + cnt t.1 - 1 < _; omega), fun x hx => ?_⟩
      have hx2 := List.mem_range.mp (h2.mem_iff.mp hx)
      obtain ⟨u, hu, hr⟩ := row_cover (trs_row ss 0) (Nat.zero_le x) (by rw [hl]; omega)
      rcases apart_of (row_apart (trs_row ss 0)) t k1 u hu with rfl | ha
      · exact .inl hr
      · right
        intro o ho z
        have w := own_in u.1 u.2 (trs_at ss u hu) x hr o ho
        have z1 := z.1
        have z2 := z.2
        have w1 := w.1
        have w2 := w.2
        dsimp only at w1 w2
        rcases ha with q | q <;> omega
    have hq : q ≠ [] := fun z => by
      subst z
      have : (lvS (ownL (rowsS ss)) [] []).countP (InT ((fallT ss).take (i + 1))) = 0 := rfl
      omega
    have a := mx_ge (own := ownL (rowsS ss)) q r [] hq
    rw [← e] at a
    have b : (lvS (ownL (rowsS ss)) [] q).countP (InT ((fallT ss).take (i + 1))) ≤ _ := List.countP_le_length
    rw [h4]
    omega

theorem inn_ints (z : Int) (l : List Int) : (D.int z).inn (l.map D.int) = decide (z ∈ l) := by
  induction l with
  | nil => rfl
  | cons y l ih =>
    show (y == z || (D.int z).inn (l.map D.int)) = _
    rw [ih]
    by_cases e : y = z
    · subst e; simp
    · rw [show (y == z) = false from beq_eq_false_iff_ne.mpr e, Bool.false_or]
      exact decide_eq_decide.mpr (by simp [List.mem_cons, Ne.symm e])
theorem natD_ints (l : List Nat) : natD l = (l.map fun i : Nat => (i : Int)).map D.int := by rw [List.map_map]; rfl
theorem inn_nats (z : Nat) (l : List Nat) : (D.int (z : Int)).inn (natD l) = decide (z ∈ l) := by
  rw [natD_ints, inn_ints]
  refine decide_eq_decide.mpr ⟨fun h => ?_, fun h => List.mem_map.mpr ⟨z, h, rfl⟩⟩
  obtain ⟨a, ha, e⟩ := List.mem_map.mp h
  rw [show z = a by omega]; exact ha
theorem flat_nats (l : List Nat) : (natD l).all D.flat = true := List.all_eq_true.mpr fun d hd => by
  obtain ⟨a, _, rfl⟩ := List.mem_map.mp hd
  rfl
/-- an order as it is told: number by number, own parts ahead -/
def isOrd (L : List Rw) : List Nat → List D → Bool
  | _, [] => true
  | ah, .int n :: ds => if 0 ≤ n ∧ n ≤ (L.length : Int) - 1 ∧ n.toNat ∉ ah ∧ ∀ o ∈ ownL L n.toNat, o ∈ ah then isOrd L (n.toNat :: ah) ds else false
  | _, _ :: _ => false
theorem isOrd_no {L : List Rw} {ah : List Nat} {d : D} {ds : List D} (h : isI d = false) : isOrd L ah (d :: ds) = false := by
  cases d <;> first | rfl | cases h
def Topo (own : Nat → List Nat) : List Nat → List Nat → Prop
  | _, [] => True
  | ah, n :: r => (∀ o ∈ own n, o ∈ ah) ∧ n ∉ ah ∧ Topo own (n :: ah) r
theorem isOrd_nat {L : List Rw} : ∀ {l ah : List Nat}, Topo (ownL L) ah l → (∀ n ∈ l, n < L.length) → isOrd L ah (natD l) = true
  | [], _, _, _ => rfl
  | n :: l, ah, h, hl => by
    obtain ⟨h1, h2, h3⟩ := h
    have := hl n List.mem_cons_self
    show (if 0 ≤ (n : Int) ∧ (n : Int) ≤ (L.length : Int) - 1 ∧ (n : Int).toNat ∉ ah ∧ ∀ o ∈ ownL L (n : Int).toNat, o ∈ ah then isOrd L ((n : Int).toNat :: ah) (natD l) else false) = true
    rw [Int.toNat_natCast, if_pos ⟨by omega, by omega, h2, h1⟩]
    exact isOrd_nat h3 fun m hm => hl m (List.mem_cons_of_mem _ hm)
/-- how many are held behind each part -/
def hN (own : Nat → List Nat) : List Nat → List Nat → List Nat
  | _, [] => []
  | lv, n :: r => (n :: lv.filter fun v => !decide (v ∈ own n)).length :: hN own (n :: lv.filter fun v => !decide (v ∈ own n)) r
theorem hN_snoc (own : Nat → List Nat) : ∀ (l lv : List Nat) (n : Nat), hN own lv (l ++ [n]) = hN own lv l ++ [(lvS own lv (l ++ [n])).length]
  | [], _, _ => rfl
  | _ :: l, lv, n => by show _ :: hN own _ (l ++ [n]) = _; rw [hN_snoc own l]; rfl
theorem hN_len (own : Nat → List Nat) : ∀ (l lv : List Nat), (hN own lv l).length = l.length
  | [], _ => rfl
  | _ :: l, _ => congrArg (· + 1) (hN_len own l _)
theorem hN_mx {own : Nat → List Nat} : ∀ (l lv : List Nat), (∀ x ∈ hN own lv l, x ≤ mxS own lv l) ∧ (mxS own lv l = 0 ∨ mxS own lv l ∈ hN own lv l)
  | [], _ => ⟨(fun x h => by cases h), .inl rfl⟩
  | n :: l, lv => by
    obtain ⟨h1, h2⟩ := hN_mx (own := own) l (n :: lv.filter fun v => !decide (v ∈ own n))
    have e : mxS own lv (n :: l) = max ((n :: lv.filter fun v => !decide (v ∈ own n)).length) (mxS own (n :: lv.filter fun v => !decide (v ∈ own n)) l) := rfl
    have e2 : hN own lv (n :: l) = (n :: lv.filter fun v => !decide (v ∈ own n)).length :: hN own (n :: lv.filter fun v => !decide (v ∈ own n)) l := rfl
    rw [e, e2]
    refine ⟨fun x hx => ?_, .inr ?_⟩
    · rcases List.mem_cons.mp hx with rfl | hx
      · exact Nat.le_max_left _ _
      · exact Nat.le_trans (h1 x hx) (Nat.le_max_right _ _)
    · have hp : 0 < (n :: lv.filter fun v => !decide (v ∈ own n)).length := Nat.succ_pos _
      generalize hA : (n :: lv.filter fun v => !decide (v ∈ own n)).length = A at *
      generalize hB : mxS own (n :: lv.filter fun v => !decide (v ∈ own n)) l = B at *
      by_cases hc : B ≤ A
      · rw [Nat.max_eq_left hc]; exact List.mem_cons_self
      · rw [Nat.max_eq_right (by omega)]
        rcases h2 with h2 | h2
        · omega
        · exact List.mem_cons_of_mem _ h2
/-- a valid order's held values -/
theorem held_next {own : Nat → List Nat} {lv : List Nat} {n : Nat} (h1 : ∀ o ∈ own n, o ∈ lv) (h2 : (own n).Nodup) (h3 : lv.Nodup) : (n :: lv.filter fun v => !decide (v ∈ own n)).length + (own n).length = lv.length + 1 := by
  have p := own_perm h1 h2 h3
  have := p.length_eq
  rw [List.length_append] at this
  rw [List.length_cons]; omega
theorem lv_nodup {own : Nat → List Nat} : ∀ {l lv : List Nat}, OkS own lv l → lv.Nodup → (lvS own lv l).Nodup
  | [], _, _, h => h
  | n :: l, lv, h, hn => by
    obtain ⟨_, _, h3, h4⟩ := h
    exact lv_nodup (lv := n :: lv.filter fun v => !decide (v ∈ own n)) h4 (List.nodup_cons.mpr ⟨fun z => h3 (List.mem_filter.mp z).1, hn.filter _⟩)
/-- own parts in the rows of a table's sets: behind them, each rested on once -/
structure Own (own : Nat → List Nat) : Prop where
  lt : ∀ n, ∀ o ∈ own n, o < n
  nd : ∀ n, (own n).Nodup
  dj : ∀ n m, n ≠ m → ∀ o ∈ own n, o ∉ own m
theorem topo_ok {own : Nat → List Nat} (W : Own own) : ∀ {l ah lv : List Nat}, Topo own ah l → (∀ m ∈ ah, ∀ o ∈ own m, o ∈ ah) → (∀ v, v ∈ lv ↔ v ∈ ah ∧ ∀ m ∈ ah, v ∉ own m) → OkS own lv l
  | [], _, _, _, _, _ => trivial
  | n :: l, ah, lv, h, hc, hv => by
    obtain ⟨h1, h2, h3⟩ := h
    refine ⟨fun o ho => (hv o).mpr ⟨h1 o ho, fun m hm z => ?_⟩, W.nd n, fun z => h2 ((hv n).mp z).1, ?_⟩
    · exact W.dj n m (fun e => h2 (e ▸ hm)) o ho z
    · refine topo_ok W h3 (fun m hm o ho => ?_) (fun v => ?_)
      · rcases List.mem_cons.mp hm with rfl | hm
        · exact List.mem_cons_of_mem _ (h1 o ho)
        · exact List.mem_cons_of_mem _ (hc m hm o ho)
      · have hnn : ∀ m ∈ ah, n ∉ own m := fun m hm z => h2 (hc m hm n z)
        constructor
        · intro hm
          rcases List.mem_cons.mp hm with rfl | hm
          · refine ⟨List.mem_cons_self, fun m hm z => ?_⟩
            rcases List.mem_cons.mp hm with rfl | hm
            · exact h2 (h1 _ z)
            · exact hnn m hm z
          · obtain ⟨a, b⟩ := List.mem_filter.mp hm
            rw [Bool.not_eq_true', decide_eq_false_iff_not] at b
            obtain ⟨a1, a2⟩ := (hv v).mp a
            refine ⟨List.mem_cons_of_mem _ a1, fun m hm => ?_⟩
            rcases List.mem_cons.mp hm with rfl | hm
            · exact b
            · exact a2 m hm
        · rintro ⟨a, b⟩
          rcases List.mem_cons.mp a with rfl | a
          · exact List.mem_cons_self
          · refine List.mem_cons_of_mem _ (List.mem_filter.mpr ⟨(hv v).mpr ⟨a, fun m hm => b m (List.mem_cons_of_mem _ hm)⟩, ?_⟩)
            rw [Bool.not_eq_true', decide_eq_false_iff_not]
            exact b n List.mem_cons_self
theorem topo_okS {own : Nat → List Nat} (W : Own own) {l : List Nat} (h : Topo own [] l) : OkS own [] l := topo_ok W h (fun _ h => by cases h) fun v => ⟨(fun h => by cases h), fun h => by cases h.1⟩
theorem rfO_nd (r : Rf) : (rfO r).Nodup := by cases r <;> simp [rfO]
theorem dj_E {own : Nat → List Nat} (hlt : ∀ n, ∀ o ∈ own n, o < n) : ∀ (e : Ex) (b : Nat), At own e b → (∀ n, W.InR (e, b) n → (own n).Nodup) ∧ ∀ n m, W.InR (e, b) n → W.InR (e, b) m → n ≠ m → ∀ o ∈ own n, o ∉ own m
  | .num _, b, _ => ⟨fun n h => by have : n < b + 0 := h.2; have : b ≤ n := h.1; omega, fun n m h => by have : n < b + 0 := h.2; have : b ≤ n := h.1; omega⟩
  | .fld _, b, _ => ⟨fun n h => by have : n < b + 0 := h.2; have : b ≤ n := h.1; omega, fun n m h => by have : n < b + 0 := h.2; have : b ≤ n := h.1; omega⟩
  | .plc s, b, hA => by
    have h0 : own b = [] := hA 0 (.get s) rfl
    have key : ∀ n, W.InR (.plc s, b) n → own n = [] := fun n h => by
      have a1 : n < b + 1 := h.2
      have a2 : b ≤ n := h.1
      rw [show n = b by omega]; exact h0
    exact ⟨fun n h => by rw [key n h]; exact List.nodup_nil, fun n m h _ _ o ho => by rw [key n h] at ho; cases ho⟩
  | .mrk s, b, hA => by
    have h0 : own b = [] := hA 0 (.ask s) rfl
    have key : ∀ n, W.InR (.mrk s, b) n → own n = [] := fun n h => by
      have a1 : n < b + 1 := h.2
      have a2 : b ≤ n := h.1
      rw [show n = b by omega]; exact h0
    exact ⟨fun n h => by rw [key n h]; exact List.nodup_nil, fun n m h _ _ o ho => by rw [key n h] at ho; cases ho⟩
  | .cel e, b, hA => by
    obtain ⟨hA1, h0⟩ := hA.cel
    obtain ⟨k1, k2⟩ := dj_E hlt e b hA1
    have cut : ∀ n, W.InR (.cel e, b) n → W.InR (e, b) n ∨ n = b + cnt e := fun n h => by
      have a1 : n < b + (cnt e + 1) := h.2
      have a2 : b ≤ n := h.1
      by_cases hn : n = b + cnt e
      · exact .inr hn
      · exact .inl ⟨a2, by show n < b + cnt e; omega⟩
    have top : ∀ o ∈ own (b + cnt e), ∀ m, W.InR (e, b) m → o ∉ own m := fun o ho m hm z => by
      rw [h0, rfO_E] at ho
      cases hc : isC e with
      | true => rw [hc, if_pos rfl] at ho; cases ho
      | false =>
        rw [hc, if_neg Bool.false_ne_true, List.mem_singleton] at ho
        have := hlt m o z
        have : m < b + cnt e := hm.2
        omega
    refine ⟨fun n h => ?_, fun n m h g hne o ho z => ?_⟩
    · rcases cut n h with h | rfl
      · exact k1 n h
      · rw [h0]; exact rfO_nd _
    · rcases cut n h with h | rfl
      · rcases cut m g with g | rfl
        · exact k2 n m h g hne o ho z
        · exact top o z n h ho
      · rcases cut m g with g | rfl
        · exact top o ho m g z
        · exact hne rfl
  | .op op x y, b, hA => by
    obtain ⟨hAx, hAy, h0⟩ := hA.op
    obtain ⟨kx1, kx2⟩ := dj_E hlt x b hAx
    obtain ⟨ky1, ky2⟩ := dj_E hlt y (b + cnt x) hAy
    have cut : ∀ n, W.InR (.op op x y, b) n → W.InR (x, b) n ∨ W.InR (y, b + cnt x) n ∨ n = b + cnt x + cnt y := fun n h => by
      have a1 : n < b + (cnt x + cnt y + 1) := h.2
      have a2 : b ≤ n := h.1
      by_cases h1 : n < b + cnt x
      · exact .inl ⟨a2, h1⟩
      · by_cases h2 : n < b + cnt x + cnt y
        · exact .inr (.inl ⟨by show b + cnt x ≤ n; omega, h2⟩)
        · exact .inr (.inr (by omega))
    have rx : ∀ o, o ∈ rfO (rfE x b) → 0 < cnt x ∧ o = b + cnt x - 1 := fun o ho => by
      rw [rfO_E] at ho
      cases hc : isC x with
      | true => rw [hc, if_pos rfl] at ho; cases ho
      | false => rw [hc, if_neg Bool.false_ne_true, List.mem_singleton] at ho; exact ⟨cnt_pos hc, ho⟩
    have ry : ∀ o, o ∈ rfO (rfE y (b + cnt x)) → 0 < cnt y ∧ o = b + cnt x + cnt y - 1 := fun o ho => by
      rw [rfO_E] at ho
      cases hc : isC y with
      | true => rw [hc, if_pos rfl] at ho; cases ho
      | false => rw [hc, if_neg Bool.false_ne_true, List.mem_singleton] at ho; exact ⟨cnt_pos hc, ho⟩
    have top : ∀ o ∈ own (b + cnt x + cnt y), ∀ m, W.InR (x, b) m ∨ W.InR (y, b + cnt x) m → o ∉ own m := fun o ho m hm z => by
      rw [h0] at ho
      have hl := hlt m o z
      rcases hm with hm | hm
      · have a1 : m < b + cnt x := hm.2
        rcases List.mem_append.mp ho with ho | ho
        · have := rx o ho; omega
        · have := ry o ho; omega
      · have a1 : m < b + cnt x + cnt y := hm.2
        have a2 : b + cnt x ≤ o := (own_in y _ hAy m hm o z).1
        rcases List.mem_append.mp ho with ho | ho
        · have := rx o ho; omega
        · have := ry o ho; omega
    have apart : ∀ n m, W.InR (x, b) n → W.InR (y, b + cnt x) m → ∀ o, o ∈ own n → o ∈ own m → False := fun n m hn hm o h1 h2 => by
      have a1 : o < b + cnt x := (own_in x _ hAx n hn o h1).2
      have a2 : b + cnt x ≤ o := (own_in y _ hAy m hm o h2).1
      omega
    refine ⟨fun n h => ?_, fun n m h g hne o ho z => ?_⟩
    · rcases cut n h with h | h | rfl
      · exact kx1 n h
      · exact ky1 n h
      · rw [h0]
        refine List.nodup_append.mpr ⟨rfO_nd _, rfO_nd _, fun a ha c hc e => ?_⟩
        have := rx a ha
        have := ry c hc
        omega
    · rcases cut n h with h | h | rfl
      · rcases cut m g with g | g | rfl
        · exact kx2 n m h g hne o ho z
        · exact apart n m h g o ho z
        · exact top o z n (.inl h) ho
      · rcases cut m g with g | g | rfl
        · exact apart m n g h o z ho
        · exact ky2 n m h g hne o ho z
        · exact top o z n (.inr h) ho
      · rcases cut m g with g | g | rfl
        · exact top o ho m (.inl g) z
        · exact top o ho m (.inr g) z
        · exact hne rfl
theorem ownL_lt {L : List Rw} (h : Bk 0 L) (n : Nat) : ∀ o ∈ ownL L n, o < n := fun o ho => by
  unfold ownL at ho
  cases q : L[n]? with
  | none => rw [q] at ho; cases ho
  | some r =>
    rw [q] at ho
    have hn := (List.getElem?_eq_some_iff.mp q)
    have e : L = L.take n ++ r :: L.drop (n + 1) := by
      rw [← hn.2]
      exact (List.take_append_drop n L).symm.trans (by rw [List.drop_eq_getElem_cons hn.1])
    have := Bk.here (e ▸ h) o ho
    rw [List.length_take] at this
    omega
theorem ownL_out {L : List Rw} {n : Nat} (h : ¬ n < L.length) : ownL L n = [] := by
  unfold ownL
  rw [List.getElem?_eq_none_iff.mpr (by omega)]
theorem own_S (ss : List Lt) : Own (ownL (rowsS ss)) := by
  have hlt := ownL_lt (bk_S ss)
  have hl : (rwT (trs ss 0)).length = (rowsS ss).length := rfl
  have cov : ∀ n, n < (rowsS ss).length → ∃ u ∈ trs ss 0, W.InR u n := fun n hn => row_cover (trs_row ss 0) (Nat.zero_le n) (by rw [hl]; omega)
  refine ⟨hlt, fun n => ?_, fun n m hne o ho z => ?_⟩
  · by_cases hn : n < (rowsS ss).length
    · obtain ⟨u, hu, hr⟩ := cov n hn
      exact (dj_E hlt u.1 u.2 (trs_at ss u hu)).1 n hr
    · rw [ownL_out hn]; exact List.nodup_nil
  · by_cases hn : n < (rowsS ss).length
    · by_cases hm : m < (rowsS ss).length
      · obtain ⟨u, hu, hr⟩ := cov n hn
        obtain ⟨w, hw, hs⟩ := cov m hm
        rcases apart_of (row_apart (trs_row ss 0)) u hu w hw with rfl | ha
        · exact (dj_E hlt u.1 u.2 (trs_at ss u hu)).2 n m hr hs hne o ho z
        · have a := own_in u.1 u.2 (trs_at ss u hu) n hr o ho
          have c := own_in w.1 w.2 (trs_at ss w hw) m hs o z
          have a1 := a.1
          have a2 := a.2
          have c1 := c.1
          have c2 := c.2
          dsimp only at a1 a2 c1 c2
          rcases ha with q | q <;> omega
      · rw [ownL_out hm] at z; cases z
    · rw [ownL_out hn] at ho; cases ho
theorem rows_at {ss : List Lt} {n : Nat} (h : n < (rowsS ss).length) : ((rowsS ss).map rwD)[n]? = some (rwD ((rowsS ss)[n]'h)) ∧ ownL (rowsS ss) n = ownR ((rowsS ss)[n]'h) := by
  refine ⟨by rw [List.getElem?_map, List.getElem?_eq_getElem h]; rfl, ?_⟩
  unfold ownL
  rw [List.getElem?_eq_getElem h]
/-- what may be asked as an order -/
def OrdT (μ : Mu) (o : D) : Prop := (∃ ds, asL μ o = some ds ∧ ds.length ≤ 1000 ∧ ∀ d ∈ ds, Thing μ d) ∨ asL μ o = none ∧ ∃ t, tyD μ o = some t ∧ (t = "NoneType" ∨ t = "str" ∨ t = "tuple" ∨ t = "dict")
def isOrdD (L : List Rw) (μ : Mu) (o : D) : Bool := match asL μ o with
  | some ds => decide (ds.length = L.length) && isOrd L [] ds
  | none => false
theorem ty_list {μ : Mu} {o : D} {ds : List D} (h : asL μ o = some ds) : tyD μ o = some "list" := by
  cases o with
  | lst es => rfl
  | adr p =>
    cases q : μ p with
    | none => simp [asL, q] at h
    | some m => cases m <;> simp [asL, q] at h <;> simp [tyD, q]
  | non => cases h
  | bl _ => cases h
  | int _ => cases h
  | str _ => cases h
  | ty _ => cases h
  | tup _ => cases h
  | obj _ _ _ => cases h
  | scr _ => cases h
theorem asL_sub {μ μ' : Mu} {o : D} {ds : List D} (s : Sub μ μ') (h : asL μ o = some ds) : asL μ' o = some ds := by
  cases o with
  | lst es => exact h
  | adr p =>
    cases q : μ p with
    | none => simp [asL, q] at h
    | some m =>
      have e := s p m q
      cases m <;> simp [asL, q] at h
      simp [asL, e, h]
  | non => cases h
  | bl _ => cases h
  | int _ => cases h
  | str _ => cases h
  | ty _ => cases h
  | tup _ => cases h
  | obj _ _ _ => cases h
  | scr _ => cases h
theorem asS_asL {μ : Mu} {o : D} {ds : List D} (h : asL μ o = some ds) : asS μ o = some ds := by
  cases o <;> first | exact h | cases h
abbrev KvO (kvs : List (Key × D)) (ah : List Nat) : Prop := (∀ z : Int, (valD kvs (.inl z)).isSome = decide (∃ n ∈ ah, z = (n : Int))) ∧ kvs.length ≤ ah.length
theorem kvO_nil : KvO [] [] := ⟨fun z => by rw [decide_eq_false (fun h => by obtain ⟨_, h, _⟩ := h; cases h)]; rfl, Nat.le_refl _⟩
theorem kvO_put {kvs : List (Key × D)} {ah : List Nat} {n : Nat} {d : D} (h : KvO kvs ah) : KvO (putD kvs (.inl (n : Int)) d) (n :: ah) := ⟨fun z => by
  rw [valD_put]
  by_cases e : (n : Int) = z
  · subst e
    rw [if_pos rfl, decide_eq_true ⟨n, List.mem_cons_self, rfl⟩]; rfl
  · rw [if_neg (fun q => e (by injection q)), h.1]
    refine decide_eq_decide.mpr ⟨fun ⟨m, hm, q⟩ => ⟨m, List.mem_cons_of_mem _ hm, q⟩, fun ⟨m, hm, q⟩ => ?_⟩
    rcases List.mem_cons.mp hm with rfl | hm
    · exact absurd q.symm e
    · exact ⟨m, hm, q⟩, Nat.le_trans putD_len (by rw [List.length_cons]; have := h.2; omega)⟩
theorem kvO_nat {kvs : List (Key × D)} {ah : List Nat} {n : Nat} (h : KvO kvs ah) : (valD kvs (.inl (n : Int))).isSome = decide (n ∈ ah) := by
  rw [h.1]
  exact decide_eq_decide.mpr ⟨fun ⟨m, hm, q⟩ => by rw [show n = m by omega]; exact hm, fun hm => ⟨n, hm, rfl⟩⟩
theorem isOrd_int {L : List Rw} {ah : List Nat} {n : Int} {ds : List D} : isOrd L ah (.int n :: ds) = if 0 ≤ n ∧ n ≤ (L.length : Int) - 1 ∧ n.toNat ∉ ah ∧ ∀ o ∈ ownL L n.toNat, o ∈ ah then isOrd L (n.toNat :: ah) ds else false := rfl
/-! ### is_order -/
def spis_order : Sp2 := fun ds μ Q _ => ∃ (p : Addr) (o : D) (L : List Rw), ds = [.adr p, o] ∧ μ p = some (.lst (L.map rwD)) ∧ L.length ≤ 1000 ∧ OrdT μ o ∧ Q (.bl (isOrdD L μ o)) μ
theorem Dis_order (T : Tt K mg cc) : Df P w K mg base "is_order" 3 ["parts", "order"] (spis_order) := by
  have Dis_within := Dis_within (P := P) (w := w) (base := base) T
  have Down_parts := Down_parts (P := P) (w := w) (base := base) T
  refine T.xis_order.ok scis_order (by rintro ds μ Q E ⟨p, o, L, rfl, hp, hl, ho, q⟩ <;> rfl) (fun f cdv A outer s H E hr => ⟨_, _, (b_cons (s_if (t_w (k_or (t_not (t_val (e_isi (by rfl) T.b_isinstance (a_cons (e_pv 1 (pv 1)) (a_cons (e_bty (n := "list") (by rfl) T.b_list (by decide +kernel)) a_nil))))) (k_or1 (t_ne hr (e_len (by rfl) T.b_len (a_cons (e_pv 1 (pv 1)) a_nil)) (e_len (by rfl) T.b_len (a_cons (e_pv 0 (pv 0)) a_nil))))))
      (b_one (s_ret e_bl))
      b_nil)
      (b_cons (s_set (i := 2) e_dnew scis_order.nd rfl (by first | exact Or.inl rfl | exact Or.inr rfl))
      (b_cons (s_for PassesOwn.never rfl (j_l (e_pv 1 (pv 1))) (g_nm (pg_name (i := 3) scis_order.nd rfl (by first | exact Or.inl rfl | exact Or.inr rfl)))
      (b_cons (s_if (t_w (k_or (t_not (t_val (e_call Dis_within hr (by rfl) (a_cons (e_pv 3 (pv 3)) (a_cons e_int (a_cons (e_sub (e_len (by rfl) T.b_len (a_cons (e_pv 0 (pv 0)) a_nil)) e_int) a_nil)))))) (k_or1 (t_inD hr (e_pv 3 (pv 3)) (e_pv 2 (pv 2))))))
      (b_one (s_ret e_bl))
      b_nil)
      (b_cons (s_for PassesOwn.never rfl (j_l (e_call Down_parts hr (by rfl) (a_cons (e_ix (e_pv 0 (pv 0)) (e_pv 3 (pv 3)) (fun _ _ => rfl)) a_nil))) (g_nm (pg_name (i := 4) scis_order.nd rfl (by first | exact Or.inl rfl | exact Or.inr rfl)))
      (b_one (s_if (t_notInD hr (e_pv 4 (pv 4)) (e_pv 2 (pv 2)))
      (b_one (s_ret e_bl))
      b_nil)))
      (b_one (s_dput hr e_bl (e_pv 2 (pv 2)) (e_pv 3 (pv 3)))))))
      (b_one (s_ret e_bl))))), ?_⟩)
  rintro ds μ Q E ⟨p, o, L, rfl, hp, hl, ho, q⟩
  rcases ho with ⟨es, ho, hel, hes⟩ | ⟨ho, t, ht, hc⟩
  · have e1 : isOrdD L μ o = (decide (es.length = L.length) && isOrd L [] es) := by unfold isOrdD; rw [ho]
    rw [e1] at q
    have ht := ty_list ho
    have ha := asS_asL ho
    walk_at "y"
    rw [List.length_map]
    refine br_dec (fun h1 => ?_) (fun h1 => ?_)
    · have h1 : es.length = L.length := by omega
      rw [decide_eq_true h1, Bool.true_and] at q
      walk_at "y"
      rename_i a ha
      have npa : p ≠ a := fun z => by rw [z, ha] at hp; cases hp
      have ho2 := asL_sub (Sub.new (m := .dk []) ha) ho
      walk_at "y"
      refine Y.Cl.at (ρ' := start2 nis_order [.adr p, o, .adr a]) (by walk_at "less") Sub.refl (w_turns (fun xs ρ μ' => ∃ ah kvs, ρ = start2 nis_order [.adr p, o, .adr a] ∧ isOrd L ah xs = isOrd L [] es ∧ μ' a = some (.dk kvs) ∧ KvO kvs ah ∧ ah.length + xs.length ≤ 1000 ∧ (∀ d ∈ xs, Thing μ d) ∧ Sub μ μ') ?_ ?_ ?_ _ _ _ ⟨[], [], rfl, rfl, mup_same, kvO_nil, by rw [List.length_nil]; omega, hes, Sub.new ha⟩)
      · rintro xs _ μ1 ⟨ah, kvs, rfl, e1, e2, e3, e4, e5, u⟩
        exact asL_sub u ho
      · rintro d xs _ μ1 ⟨ah, kvs, rfl, e1, e2, e3, e4, e5, u⟩ N hN
        have hd := (e5 d List.mem_cons_self).up u
        have hp1 := u p _ hp
        rw [List.length_cons] at e4
        walk_at "y"
        rw [List.length_map]
        refine ⟨d, _, _, rfl, hd, ?_⟩
        rcases hd with ⟨n, rfl⟩ | ⟨hi, _⟩
        · rw [isOrd_int] at e1
          by_cases h0 : 0 ≤ n ∧ n ≤ (L.length : Int) - 1
          · rw [show wi (.int n) 0 ((L.length : Int) - 1) = true by show (decide (0 ≤ n) && decide (n ≤ (L.length : Int) - 1)) = true; rw [decide_eq_true h0.1, decide_eq_true h0.2]; rfl]
            obtain ⟨m, rfl⟩ : ∃ m : Nat, n = (m : Int) := ⟨n.toNat, by omega⟩
            rw [Int.toNat_natCast] at e1
            have hm : m < L.length := by omega
            have hr : (L.map rwD)[m]? = some (rwD (L[m]'hm)) := by rw [List.getElem?_map, List.getElem?_eq_getElem hm]; rfl
            have hw : ownL L m = ownR (L[m]'hm) := by unfold ownL; rw [List.getElem?_eq_getElem hm]
            walk_at "y"
            rw [kvO_nat e3]
            refine br_dec (fun h1 => ?_) (fun h1 => ?_)
            · rw [if_neg (fun z => z.2.2.1 h1)] at e1
              rw [← e1] at q
              walk_at "y"
              exact RtC.less u q
            · walk_at "y"
              refine w_ixS (asS_adr hp1) (atI_nat hr) ?_
              walk_at "y"
              refine ⟨_, rfl, ?_⟩
              rw [← hw]
              walk_at "y"
              refine Y.Cl.same ?_
              refine w_turnsI (fun i : Nat => D.int (i : Int)) (fun dn ρ μ' => (∃ v, ρ = (start2 nis_order [.adr p, o, .adr a, .int (m : Int)]).set 4 v) ∧ μ' = μ1 ∧ ∀ x ∈ dn, x ∈ ah) ?_ ?_ ?_ _ _ ⟨⟨none, rfl⟩, rfl, fun _ h => by cases h⟩
              · rintro dn _ _ ⟨⟨v, rfl⟩, rfl, _⟩
                rfl
              · rintro dn x rs he _ _ ⟨⟨v, rfl⟩, rfl, hdn⟩ N2 hN2
                walk_at "y"
                rw [kvO_nat e3]
                have hx : x ∈ ownL L m := by rw [he]; exact List.mem_append_right _ List.mem_cons_self
                refine br_dec (fun h2 => ?_) (fun h2 => ?_)
                · walk_at "y"
                  refine Y.Cl.same (hN2 _ _ ⟨⟨some (D.int (x : Int)), rfl⟩, rfl, fun y hy => ?_⟩)
                  rcases List.mem_append.mp hy with hy | hy
                  · exact hdn y hy
                  · rw [List.mem_singleton.mp hy]; exact h2
                · rw [if_neg (fun z => h2 (z.2.2.2 x hx))] at e1
                  rw [← e1] at q
                  walk_at "y"
                  exact RtC.less u q
              · rintro _ _ ⟨⟨v, rfl⟩, rfl, hdn⟩
                rw [if_pos ⟨h0.1, h0.2, h1, hdn⟩] at e1
                have hkl : kvs.length < 1000 := by have := e3.2; omega
                walk_at "y"
                exact Y.Cl.at (by walk_at "less") Sub.refl (hN _ _ ⟨m :: ah, _, rfl, e1, mup_same, kvO_put e3, by rw [List.length_cons]; omega, fun d hd => e5 d (List.mem_cons_of_mem _ hd), fun b mm hb => by rw [mup_ne (fun z => by rw [z, ha] at hb; cases hb)]; exact u b mm hb⟩)
          · rw [show wi (.int n) 0 ((L.length : Int) - 1) = false by show (decide (0 ≤ n) && decide (n ≤ (L.length : Int) - 1)) = false; rw [Bool.and_eq_false_iff]; by_cases hz : 0 ≤ n; exact .inr (decide_eq_false (fun z => h0 ⟨hz, z⟩)); exact .inl (decide_eq_false hz)]
            rw [if_neg (fun z => h0 ⟨z.1, z.2.1⟩)] at e1
            rw [← e1] at q
            walk_at "y"
            exact RtC.less u q
        · rw [isOrd_no hi] at e1
          rw [← e1] at q
          rw [wi_no hi]
          walk_at "y"
          exact RtC.less u q
      · rintro _ μ1 ⟨ah, kvs, rfl, e1, e2, e3, e4, e5, u⟩
        walk_at "y"
        rw [← e1] at q
        exact RtC.less u q
    · rw [decide_eq_false (show ¬ es.length = L.length by omega), Bool.false_and] at q
      walk_at "y"
      exact RtC.same q
  · have e1 : isOrdD L μ o = false := by unfold isOrdD; rw [ho]
    rw [e1] at q
    rcases hc with rfl | rfl | rfl | rfl
    all_goals
      walk_at "y"
      exact RtC.same q
theorem ordT_up {μ μ' : Mu} {o : D} {L : List Rw} (s : Sub μ μ') (h : OrdT μ o) : OrdT μ' o ∧ isOrdD L μ' o = isOrdD L μ o := by
  rcases h with ⟨ds, h1, h2, h3⟩ | ⟨h1, t, h2, h3⟩
  · have e := asL_sub s h1
    exact ⟨.inl ⟨ds, e, h2, fun d hd => (h3 d hd).up s⟩, by unfold isOrdD; rw [e, h1]⟩
  · cases o with
    | adr a =>
      cases q : μ a with
      | none => simp [tyD, q] at h2
      | some m =>
        have e := s a m q
        cases m with
        | lst ds => simp [asL, q] at h1
        | dk kvs =>
          have e2 : asL μ' (.adr a) = none := by simp [asL, e]
          exact ⟨.inr ⟨e2, t, by simp [tyD, q] at h2; simp [tyD, e, h2], h3⟩, by unfold isOrdD; rw [e2, h1]⟩
        | ins C fs => simp [tyD, q] at h2
    | non => exact ⟨.inr ⟨rfl, t, h2, h3⟩, rfl⟩
    | bl _ => exact ⟨.inr ⟨rfl, t, h2, h3⟩, rfl⟩
    | int _ => exact ⟨.inr ⟨rfl, t, h2, h3⟩, rfl⟩
    | str _ => exact ⟨.inr ⟨rfl, t, h2, h3⟩, rfl⟩
    | ty _ => exact ⟨.inr ⟨rfl, t, h2, h3⟩, rfl⟩
    | tup _ => exact ⟨.inr ⟨rfl, t, h2, h3⟩, rfl⟩
    | lst _ => cases h1
    | obj _ _ _ => exact ⟨.inr ⟨rfl, t, h2, h3⟩, rfl⟩
    | scr _ => exact ⟨.inr ⟨rfl, t, h2, h3⟩, rfl⟩
/-- a good order of a table's parts -/
structure Good (ss : List Lt) (l : List Nat) : Prop where
  tp : Topo (ownL (rowsS ss)) [] l
  len : l.length = (rowsS ss).length
  lt : ∀ n ∈ l, n < (rowsS ss).length
theorem Good.ok {ss : List Lt} {l : List Nat} (g : Good ss l) : OkS (ownL (rowsS ss)) [] l := topo_okS (own_S ss) g.tp
/-! ### held_by -/
def spheld_by : Sp2 := fun ds μ Q _ => ∃ (ss : List Lt) (o : D), ds = [.tup (ss.map ltD), o] ∧ ss.length ≤ 20 ∧ (∀ s ∈ ss, stDep s ≤ 3) ∧ ((∃ l, asL μ o = some (natD l) ∧ Good ss l ∧ ∀ p μ', μ p = none → Sub μ μ' → μ' p = some (.lst (natD (hN (ownL (rowsS ss)) [] l))) → Q (.adr p) μ') ∨ OrdT μ o ∧ isOrdD (rowsS ss) μ o = false ∧ Q .non μ)
theorem Dheld_by (T : Tt K mg cc) : Df P w K mg base "held_by" 8 ["sets", "order"] (spheld_by) := by
  have Dparts_of := Dparts_of (P := P) (w := w) (base := base) T
  have Down_parts := Down_parts (P := P) (w := w) (base := base) T
  have Dis_order := Dis_order (P := P) (w := w) (base := base) T
  refine T.xheld_by.ok scheld_by (by rintro ds μ Q E ⟨ss, o, rfl, hn, hd, q⟩ <;> rfl) (fun f cdv A outer s H E hr => ⟨_, _, (b_cons (s_set (i := 2) (e_call Dparts_of hr (by rfl) (a_cons (e_pv 0 (pv 0)) a_nil)) scheld_by.nd rfl (by first | exact Or.inl rfl | exact Or.inr rfl))
      (b_cons (s_if (t_not (t_val (e_call Dis_order hr (by rfl) (a_cons (e_pv 2 (pv 2)) (a_cons (e_pv 1 (pv 1)) a_nil)))))
      (b_one (s_ret e_non))
      b_nil)
      (b_cons (s_set (i := 3) (e_lst a_nil) scheld_by.nd rfl (by first | exact Or.inl rfl | exact Or.inr rfl))
      (b_cons (s_set (i := 4) e_int scheld_by.nd rfl (by first | exact Or.inl rfl | exact Or.inr rfl))
      (b_cons (s_for PassesOwn.never rfl (j_l (e_pv 1 (pv 1))) (g_nm (pg_name (i := 5) scheld_by.nd rfl (by first | exact Or.inl rfl | exact Or.inr rfl)))
      (b_cons (s_set (i := 4) (e_sub (e_add (e_pv 4 (pv 4)) e_int) (e_len (by rfl) T.b_len (a_cons (e_call Down_parts hr (by rfl) (a_cons (e_ix (e_pv 2 (pv 2)) (e_pv 5 (pv 5)) (fun _ _ => rfl)) a_nil)) a_nil))) scheld_by.nd rfl (by first | exact Or.inl rfl | exact Or.inr rfl))
      (b_one (s_expr (e_app (e_pv 3 (pv 3)) (a_cons (e_pv 4 (pv 4)) a_nil))))))
      (b_one (s_ret (e_pv 3 (pv 3))))))))), ?_⟩)
  rintro ds μ Q E ⟨ss, o, rfl, hn, hd, q⟩
  have hl := rows_len hd
  walk_at "y"
  refine ⟨ss, rfl, hn, hd, fun p μ1 n1 u1 e1 => ?_⟩
  rw [rts_rw] at e1
  walk_at "y"
  rcases q with ⟨l, ho, hg, q⟩ | ⟨ho, hno, q⟩
  · have hT : OrdT μ o := .inl ⟨_, ho, by rw [List.length_map, hg.len]; omega, fun d hd => by obtain ⟨i, _, rfl⟩ := List.mem_map.mp hd; exact thing_int⟩
    obtain ⟨t1, t2⟩ := ordT_up (L := rowsS ss) u1 hT
    have e2 : isOrdD (rowsS ss) μ o = true := by unfold isOrdD; rw [ho]; show (decide _ && _) = true; rw [isOrd_nat hg.tp hg.lt, List.length_map, decide_eq_true hg.len]; rfl
    refine ⟨p, o, rowsS ss, rfl, e1, by omega, t1, ?_⟩
    rw [t2, e2]
    walk_at "y"
    intro f hf
    have ho1 := asL_sub u1 ho
    have ho2 := asL_sub (Sub.new (m := .lst []) hf) ho1
    have npf : p ≠ f := fun z => by rw [z, hf] at e1; cases e1
    have hf0 : μ f = none := none_sub u1 hf
    walk_at "y"
    refine Y.Cl.at (ρ' := start2 nheld_by [.tup (ss.map ltD), o, .adr p, .adr f, .int 0]) (by walk_at "less") Sub.refl (w_turnsI (fun i : Nat => D.int (i : Int)) (fun dn ρ μ' => ρ = start2 nheld_by [.tup (ss.map ltD), o, .adr p, .adr f, .int ((lvS (ownL (rowsS ss)) [] dn).length : Nat)] ∧ μ' f = some (.lst (natD (hN (ownL (rowsS ss)) [] dn))) ∧ μ' p = some (.lst ((rowsS ss).map rwD)) ∧ Sub μ μ') ?_ ?_ ?_ _ _ ⟨rfl, mup_same, by walk_at "mu", by walk_at "sub"⟩)
    · rintro dn _ μ2 ⟨rfl, e3, e4, u2⟩
      exact asL_sub u2 ho
    · rintro dn x rs he _ μ2 ⟨rfl, e3, e4, u2⟩ N hNx
      have hx : x < (rowsS ss).length := hg.lt x (by rw [he]; exact List.mem_append_right _ List.mem_cons_self)
      obtain ⟨r1, r2⟩ := rows_at hx
      have hk := OkS_split (he ▸ hg.ok)
      obtain ⟨k1, k2, k3, _⟩ := hk.2
      have hnx := held_next k1 k2 (lv_nodup hk.1 List.nodup_nil)
      rw [← lvS_snoc] at hnx
      have hfl : (natD (hN (ownL (rowsS ss)) [] dn)).length < 1000 := by
        rw [List.length_map, hN_len]
        have := congrArg List.length he
        rw [hg.len, List.length_append, List.length_cons] at this; omega
      walk_at "y"
      refine w_ixS (asS_adr e4) (atI_nat r1) ?_
      walk_at "y"
      refine ⟨_, rfl, ?_⟩
      rw [← r2]
      walk_at "y"
      rw [List.length_map, show ((lvS (ownL (rowsS ss)) [] dn).length : Int) + 1 - ((ownL (rowsS ss) x).length : Int) = ((lvS (ownL (rowsS ss)) [] (dn ++ [x])).length : Nat) by omega]
      refine Y.Cl.at (by walk_at "less") Sub.refl (hNx _ _ ⟨rfl, ?_, ?_, ?_⟩)
      · rw [hN_snoc, natD_snoc]; exact mup_same
      · rw [mup_ne npf]; exact e4
      · exact fun b m hb => by rw [mup_ne (fun z => by rw [z, hf0] at hb; cases hb)]; exact u2 b m hb
    · rintro _ μ2 ⟨rfl, e3, e4, u2⟩
      walk_at "y"
      exact RtC.same (q f _ hf0 u2 e3)
  · obtain ⟨t1, t2⟩ := ordT_up (L := rowsS ss) u1 ho
    refine ⟨p, o, rowsS ss, rfl, e1, by omega, t1, ?_⟩
    rw [t2, hno]
    walk_at "y"
    exact RtC.less u1 q
theorem pk_snoc : ∀ (l : List Nat) (k n : Nat), pk k (l ++ [n]) = max (pk k l) (k + l.length + n)
  | [], k, n => by show max (k + n) 0 = max 0 (k + 0 + n); omega
  | m :: l, k, n => by
    show max (k + m) (pk (k + 1) (l ++ [n])) = max (max (k + m) (pk (k + 1) l)) (k + (l.length + 1) + n)
    rw [pk_snoc l (k + 1) n]; omega
/-! ### needs_of_sets -/
def spneeds_of_sets : Sp2 := fun ds μ Q _ => ∃ ss : List Lt, ds = [.tup (ss.map ltD)] ∧ ss.length ≤ 20 ∧ (∀ s ∈ ss, stDep s ≤ 3) ∧ Q (.int ((pk 0 ((fallT ss).map fun t => need t.1) : Nat) : Int)) μ
theorem Dneeds_of_sets (T : Tt K mg cc) : Df P w K mg base "needs_of_sets" 9 ["sets"] (spneeds_of_sets) := by
  have Dfalling := Dfalling (P := P) (w := w) (base := base) T
  refine T.xneeds_of_sets.ok scneeds_of_sets (by rintro ds μ Q E ⟨ss, rfl, hn, hd, q⟩ <;> rfl) (fun f cdv A outer s H E hr => ⟨_, _, (b_cons (s_set (i := 1) e_int scneeds_of_sets.nd rfl (by first | exact Or.inl rfl | exact Or.inr rfl))
      (b_cons (s_for PassesOwn.never rfl (j_e (by rfl) T.b_enumerate (a_cons (e_call Dfalling hr (by rfl) (a_cons (e_pv 0 (pv 0)) a_nil)) a_nil)) (g_un (n := 2) rfl (gs_cons (g_nm (pg_name (i := 2) scneeds_of_sets.nd rfl (by first | exact Or.inl rfl | exact Or.inr rfl))) (gs_cons (g_un (n := 3) rfl (gs_cons (g_nm (pg_name (i := 3) scneeds_of_sets.nd rfl (by first | exact Or.inl rfl | exact Or.inr rfl))) (gs_cons (g_nm (pg_name (i := 4) scneeds_of_sets.nd rfl (by first | exact Or.inl rfl | exact Or.inr rfl))) (gs_cons (g_nm (pg_name (i := 5) scneeds_of_sets.nd rfl (by first | exact Or.inl rfl | exact Or.inr rfl))) gs_nil)))) gs_nil)))
      (b_one (s_set (i := 1) (e_max2 (by rfl) T.b_max (a_cons (e_pv 1 (pv 1)) (a_cons (e_sub (e_pv 2 (pv 2)) (e_pv 3 (pv 3))) a_nil))) scneeds_of_sets.nd rfl (by first | exact Or.inl rfl | exact Or.inr rfl))))
      (b_one (s_ret (e_pv 1 (pv 1)))))), ?_⟩)
  rintro ds μ Q E ⟨ss, rfl, hn, hd, q⟩
  walk_at "y"
  refine ⟨ss, rfl, hn, hd, fun μ1 u1 => ?_⟩
  rw [srt_fall, List.map_map]
  walk_at "y"
  have hz : (fallZ ss).map (fun z => need z.1.1) = (fallT ss).map fun t => need t.1 := by unfold fallT; rw [List.map_map]; rfl
  refine Y.Cl.at (ρ' := start2 nneeds_of_sets [.tup (ss.map ltD), .int 0]) (by walk_at "less") Sub.refl (w_turnsE (fun z => tpD (tri z)) (fun dn ρ μ' => ρ = start2 nneeds_of_sets [.tup (ss.map ltD), .int ((pk 0 (dn.map fun z => need z.1.1) : Nat) : Int)] ∧ μ' = μ1) ?_ ?_ ?_ _ _ ⟨rfl, rfl⟩)
  · rintro dn _ _ ⟨rfl, rfl⟩
    rfl
  · rintro dn x rs he _ _ ⟨rfl, rfl⟩ N hNx
    rw [show tpD (tri x) = .tup [.int (-(need x.1.1 : Int)), .int (x.2 : Int), .int (rnum x.1 : Int)] from rfl]
    walk_at "y"
    have e := pk_snoc (dn.map fun z => need z.1.1) 0 (need x.1.1)
    rw [List.length_map] at e
    have e2 : (if ((dn.length : Nat) : Int) - -(need x.1.1 : Int) > ((pk 0 (dn.map fun z => need z.1.1) : Nat) : Int) then ((dn.length : Nat) : Int) - -(need x.1.1 : Int) else ((pk 0 (dn.map fun z => need z.1.1) : Nat) : Int)) = ((pk 0 ((dn ++ [x]).map fun z => need z.1.1) : Nat) : Int) := by
      rw [List.map_append, List.map_singleton, e]; split <;> omega
    rw [e2]
    exact Y.Cl.at (by walk_at "less") Sub.refl (hNx _ _ ⟨rfl, rfl⟩)
  · rintro _ _ ⟨rfl, rfl⟩
    rw [hz]
    walk_at "y"
    exact RtC.less u1 q

theorem topo_snoc {own : Nat → List Nat} : ∀ {l ah : List Nat} {n : Nat}, Topo own ah l → (∀ o ∈ own n, o ∈ ah ∨ o ∈ l) → n ∉ ah → n ∉ l → Topo own ah (l ++ [n])
  | [], ah, n, _, h1, h2, _ => ⟨fun o ho => (h1 o ho).elim id (fun z => by cases z), h2, trivial⟩
  | m :: l, ah, n, h, h1, h2, h3 => by
    obtain ⟨k1, k2, k3⟩ := h
    refine ⟨k1, k2, topo_snoc k3 (fun o ho => ?_) (fun z => ?_) (fun z => h3 (List.mem_cons_of_mem _ z))⟩
    · rcases h1 o ho with z | z
      · exact .inl (List.mem_cons_of_mem _ z)
      · rcases List.mem_cons.mp z with rfl | z
        · exact .inl List.mem_cons_self
        · exact .inr z
    · rcases List.mem_cons.mp z with rfl | z
      · exact h3 List.mem_cons_self
      · exact h2 z
theorem topo_nd {own : Nat → List Nat} : ∀ {l ah : List Nat}, Topo own ah l → l.Nodup ∧ ∀ x ∈ l, x ∉ ah
  | [], _, _ => ⟨List.nodup_nil, fun _ h => by cases h⟩
  | n :: l, ah, h => by
    obtain ⟨_, k2, k3⟩ := h
    obtain ⟨a, b⟩ := topo_nd k3
    refine ⟨List.nodup_cons.mpr ⟨fun z => b n z List.mem_cons_self, a⟩, fun x hx => ?_⟩
    rcases List.mem_cons.mp hx with rfl | hx
    · exact k2
    · exact fun z => b x hx (List.mem_cons_of_mem _ z)
theorem min_of : ∀ {l : List Nat}, l ≠ [] → ∃ m ∈ l, ∀ x ∈ l, m ≤ x
  | [], h => absurd rfl h
  | [a], _ => ⟨a, List.mem_cons_self, fun x hx => by rw [List.mem_singleton.mp hx]; exact Nat.le_refl _⟩
  | a :: b :: l, _ => by
    obtain ⟨m, h1, h2⟩ := min_of (l := b :: l) (by simp)
    by_cases h : a ≤ m
    · exact ⟨a, List.mem_cons_self, fun x hx => by
        rcases List.mem_cons.mp hx with rfl | hx
        · exact Nat.le_refl _
        · exact Nat.le_trans h (h2 x hx)⟩
    · exact ⟨m, List.mem_cons_of_mem _ h1, fun x hx => by
        rcases List.mem_cons.mp hx with rfl | hx
        · omega
        · exact h2 x hx⟩
/-- what is left of the parts, what was done -/
structure Lft (own : Nat → List Nat) (N : Nat) (dn lf : List Nat) : Prop where
  tp : Topo own [] dn
  mem : ∀ n, n ∈ lf ↔ n < N ∧ n ∉ dn
  nd : lf.Nodup
  lt : ∀ n ∈ dn, n < N
  len : dn.length + lf.length = N
abbrev rdy (own : Nat → List Nat) (lf : List Nat) : List Nat := lf.filter fun x => decide ((own x).filter (fun o => decide (o ∈ lf)) = [])
theorem rdy_mem {own : Nat → List Nat} {lf : List Nat} {x : Nat} (h : x ∈ rdy own lf) : x ∈ lf ∧ ∀ o ∈ own x, o ∉ lf := by
  obtain ⟨h1, h2⟩ := List.mem_filter.mp h
  have h3 := of_decide_eq_true h2
  refine ⟨h1, fun o ho z => ?_⟩
  have h4 : o ∈ (own x).filter (fun o => decide (o ∈ lf)) := List.mem_filter.mpr ⟨ho, decide_eq_true z⟩
  rw [h3] at h4; cases h4
theorem rdy_ne {own : Nat → List Nat} (hlt : ∀ n, ∀ o ∈ own n, o < n) {lf : List Nat} (h : lf ≠ []) : 0 < (rdy own lf).length := by
  obtain ⟨m, h1, h2⟩ := min_of h
  refine List.length_pos_of_mem (a := m) (List.mem_filter.mpr ⟨h1, decide_eq_true (List.filter_eq_nil_iff.mpr fun o ho => ?_)⟩)
  rw [decide_eq_true_iff]
  intro z
  have := hlt m o ho
  have := h2 o z
  omega
theorem Lft.next {own : Nat → List Nat} (hlt : ∀ n, ∀ o ∈ own n, o < n) {N : Nat} {dn lf : List Nat} (h : Lft own N dn lf) {x : Nat} (hx : x ∈ rdy own lf) : Lft own N (dn ++ [x]) (lf.erase x) := by
  obtain ⟨h1, h2⟩ := rdy_mem hx
  obtain ⟨a, b⟩ := (h.mem x).mp h1
  refine ⟨topo_snoc h.tp (fun o ho => .inr ?_) (fun z => by cases z) b, fun n => ?_, h.nd.erase _, fun n hn => ?_, ?_⟩
  · have := hlt x o ho
    by_cases hm : o ∈ dn
    · exact hm
    · exact absurd ((h.mem o).mpr ⟨by omega, hm⟩) (h2 o ho)
  · rw [h.nd.mem_erase_iff, h.mem n, List.mem_append, List.mem_singleton]
    constructor
    · rintro ⟨e, c, d⟩; exact ⟨c, fun z => z.elim d e⟩
    · rintro ⟨c, d⟩; exact ⟨fun e => d (.inr e), c, fun e => d (.inl e)⟩
  · rcases List.mem_append.mp hn with hn | hn
    · exact h.lt n hn
    · rw [List.mem_singleton.mp hn]; exact a
  · have := List.length_erase_of_mem h1
    have hp := List.length_pos_of_mem h1
    have := h.len
    rw [List.length_append, List.length_singleton]; omega
theorem nat_erase (x : Nat) : ∀ l : List Nat, (l.map fun i : Nat => (i : Int)).erase (x : Int) = (l.erase x).map fun i : Nat => (i : Int)
  | [] => rfl
  | a :: l => by
    rw [List.map_cons, List.erase_cons, List.erase_cons]
    by_cases h : a = x
    · subst h; simp
    · rw [if_neg (by rw [beq_iff_eq]; omega), if_neg (by rw [beq_iff_eq]; exact h), List.map_cons, nat_erase x l]
theorem fm_nat (p : Nat → Bool) : ∀ l : List Nat, (l.filterMap fun x => if p x = true then some (D.int (x : Int)) else none) = natD (l.filter p)
  | [] => rfl
  | x :: l => by
    rw [List.filterMap_cons, List.filter_cons]
    by_cases h : p x = true
    · rw [if_pos h, if_pos h, fm_nat p l]; rfl
    · rw [if_neg h, if_neg h, fm_nat p l]
theorem good_of {ss : List Lt} {dn : List Nat} (h : Lft (ownL (rowsS ss)) (rowsS ss).length dn []) : Good ss dn := ⟨h.tp, by have := h.len; rw [List.length_nil] at this; omega, h.lt⟩
theorem perm_lt : ∀ (N : Nat) {l : List Nat}, l.Nodup → l.length = N → (∀ n ∈ l, n < N) → l.Perm (List.range N)
  | 0, l, _, h, _ => by rw [List.length_eq_zero_iff.mp h]; exact List.Perm.refl _
  | N + 1, l, h1, h2, h3 => by
    by_cases hm : N ∈ l
    · have e := List.perm_cons_erase hm
      have hl := List.length_erase_of_mem hm
      have ih := perm_lt N (h1.erase N) (by omega) (fun n hn => by
        have := h3 n (List.mem_of_mem_erase hn)
        have := (h1.mem_erase_iff.mp hn).1
        omega)
      rw [List.range_succ]
      exact e.trans ((ih.cons N).trans (List.perm_append_singleton _ _).symm)
    · exfalso
      have : ∀ (M : Nat) (l : List Nat), l.Nodup → (∀ n ∈ l, n < M) → l.length ≤ M := by
        intro M
        induction M with
        | zero =>
          intro l _ hl
          cases l with
          | nil => exact Nat.le_refl _
          | cons a _ => exact absurd (hl a List.mem_cons_self) (Nat.not_lt_zero _)
        | succ M ih =>
          intro l hn hl
          have := ih (l.erase M) (hn.erase M) fun n hn2 => by
            have := hl n (List.mem_of_mem_erase hn2)
            have := (hn.mem_erase_iff.mp hn2).1
            omega
          have h5 := List.length_erase (a := M) (l := l)
          split at h5 <;> omega
      have := this N l h1 fun n hn => by
        have := h3 n hn
        have : n ≠ N := fun e => hm (e ▸ hn)
        omega
      omega
theorem Good.perm {ss : List Lt} {l : List Nat} (g : Good ss l) : l.Perm (List.range (rowsS ss).length) := perm_lt _ (topo_nd g.tp).1 g.len g.lt
theorem rsv_adr {ν : Mu} {p : Addr} {ds : List D} (e : ν p = some (.lst ds)) : rsv ν (.adr p) = .lst ds := by
  show (match ν p with | some (MO.lst ds) => D.lst ds | _ => D.adr p) = _
  rw [e]
theorem shp_natD {l : List Nat} : D.shp 64 (.lst (natD l)) = true := shp_nats
theorem eqv_natD {a b : List Nat} : PyData.eqv (D.lst (natD a)).py (D.lst (natD b)).py = decide (a = b) := eqv_nats
/-- a list of numbers that is owned, beside one that is told -/
theorem w_neN {μ : Mu} {Q : DK} {p : Addr} {a : List Nat} (b : List Nat) (h : μ p = some (.lst (natD a))) (q : Q (.bl (!decide (a = b))) μ) : dNe (.adr p) (.lst (natD b)) μ Q :=
  w_neD (by rw [rsv_adr h]; exact shp_natD) shp_natD (by rw [rsv_adr h]; show Q (.bl (!PyData.eqv (D.lst (natD a)).py (D.lst (natD b)).py)) μ; rw [eqv_natD]; exact q)
theorem w_eqN {μ : Mu} {Q : DK} {a : List Nat} (b : List Nat) (q : Q (.bl (decide (a = b))) μ) : dEq (.lst (natD a)) (.lst (natD b)) μ Q :=
  w_eqD shp_natD shp_natD (by show Q (.bl (PyData.eqv (D.lst (natD a)).py (D.lst (natD b)).py)) μ; rw [eqv_natD]; exact q)
/-! ### _law_order -/
def spLorder : Sp2 := fun ds μ Q _ => ∃ (s p : Addr) (ss : List Lt), ds = [.adr s, .adr p] ∧ Strm μ s ∧ p ≠ s ∧ μ p = some (.lst ((rowsS ss).map rwD)) ∧ (rowsS ss).length ≤ 1000 ∧ ∀ l o μ', Good ss l → TkW s μ μ' → μ o = none → μ' o = some (.lst (natD l)) → Q (.adr o) μ'
theorem DLorder (T : Tt K mg cc) : Df P w K mg base "_law_order" 2 ["_law_stream_here", "_law_parts_here"] (spLorder) := by
  have DLtake := DLtake (P := P) (w := w) (base := base) T
  have DLown := DLown (P := P) (w := w) (base := base) T
  refine T.xLorder.ok scLorder (by rintro ds μ Q E ⟨s, p, ss, rfl, hS, nps, hp, hl, q⟩ <;> rfl) (fun f cdv A outer s H E hr => ⟨_, _, (b_cons (s_set (i := 2) (e_listRg1 rfl (by rfl) T.b_list (by rfl) T.b_range (e_len (by rfl) T.b_len (a_cons (e_pv 1 (pv 1)) a_nil))) scLorder.nd rfl (by first | exact Or.inl rfl | exact Or.inr rfl))
      (b_cons (s_set (i := 3) (e_lst a_nil) scLorder.nd rfl (by first | exact Or.inl rfl | exact Or.inr rfl))
      (b_cons (s_while PassesOwn.never (t_ne hr (e_pv 2 (pv 2)) (e_fz (e_lst a_nil)))
      (b_cons (s_setLcF (i := 4) (own := [("_law_one", 5)]) rfl scLorder.nd rfl rfl (sw_true rfl rfl rfl (by decide +kernel)) (j_l (e_pv 2 (pv 2))) (blkOk_by (N := nLorder) (sc := defScope sLorder) (by decide +kernel)) (fun _ _ _ _ _ => ⟨_, (g_nm (pg_name (i := 5) scLorder.nd rfl (by first | exact Or.inl rfl | exact Or.inr rfl)))⟩) (fun _ _ _ _ _ => ⟨_, (ts_one (t_eq hr (e_fz (e_lc (own := [("_law_own_here", 6)]) rfl scLorder.nd (j_l (e_call DLown hr (by rfl) (a_cons (e_ix (e_pv 1 (pv 1)) (e_pv 5 (pv 5)) (fun _ _ => rfl)) a_nil))) (blkOk_by (by kernel_rfl)) (fun _ _ _ _ _ => ⟨_, (g_nm (pg_name (i := 6) scLorder.nd rfl (by first | exact Or.inl rfl | exact Or.inr rfl)))⟩) (fun _ _ _ _ _ => ⟨_, (ts_one (t_in (e_pv 6 (pv 6)) (e_pv 2 (pv 2)) (by rfl)))⟩) (fun _ _ _ _ _ => ⟨_, (e_pv 6 (pv 6))⟩))) (e_fz (e_lst a_nil))))⟩) (fun _ _ _ _ _ => ⟨_, (e_pv 5 (pv 5))⟩))
      (b_cons (s_set (i := 5) (e_ix (e_pv 4 (pv 4)) (e_call DLtake hr (by rfl) (a_cons (e_pv 0 (pv 0)) (a_cons (e_len (by rfl) T.b_len (a_cons (e_pv 4 (pv 4)) a_nil)) a_nil))) (fun _ _ => rfl)) scLorder.nd rfl (by first | exact Or.inl rfl | exact Or.inr rfl))
      (b_cons (s_expr (e_remove rfl (e_pv 2 (pv 2)) (e_pv 5 (pv 5))))
      (b_one (s_expr (e_app (e_pv 3 (pv 3)) (a_cons (e_pv 5 (pv 5)) a_nil))))))))
      (b_one (s_ret (e_pv 3 (pv 3))))))), ?_⟩)
  rintro ds μ Q E ⟨s, p, ss, rfl, hS, nps, hp, hl, q⟩
  have hlt := (own_S ss).lt
  walk_at "y"
  rw [List.length_map]
  refine w_lrg1K (L2.RgOk.of_le (by omega) (by omega) (by omega) (by omega)) fun a ha => ?_
  rw [Int.toNat_natCast, rng_natD]
  have nas := hS.ne ha
  have npa : p ≠ a := fun z => by rw [z, ha] at hp; cases hp
  walk_at "y"
  intro o ho
  have noa : o ≠ a := ne_of_mup ho
  have ho0 : μ o = none := none_sub (Sub.new ha) ho
  have nos := hS.ne ho0
  have npo : p ≠ o := fun z => by rw [z, ho0] at hp; cases hp
  have w0 := ((TkW.refl hS).up (m := .lst (natD (List.range (rowsS ss).length))) ha).up (m := .lst []) ho
  walk_at "y"
  refine w_while (fun m ρ μ' => ∃ dn lf, m = lf.length ∧ ρ = start2 nLorder [.adr s, .adr p, .adr a, .adr o] ∧ Lft (ownL (rowsS ss)) (rowsS ss).length dn lf ∧ μ' a = some (.lst (natD lf)) ∧ μ' o = some (.lst (natD dn)) ∧ TkW s μ μ') _ (Y.Cl.at (by walk_at "less") Sub.refl ⟨[], List.range (rowsS ss).length, rfl, rfl, ⟨trivial, fun n => by rw [List.mem_range]; exact ⟨fun h => ⟨h, fun z => by cases z⟩, fun h => h.1⟩, List.nodup_range, (fun _ h => by cases h), by rw [List.length_range]; exact Nat.zero_add _⟩, by walk_at "mu", mup_same, w0⟩) ?_
  rintro m _ μ1 ⟨dn, lf, rfl, rfl, hL, e1, e2, w1⟩
  have hp1 := w1.2 p _ nps hp
  have hlf : lf.length ≤ 1000 := by have := hL.len; omega
  walk_at "y"
  refine w_neN [] e1 ?_
  walk_at "y"
  refine br_dec (fun h => ?_) (fun h => ?_)
  · subst h
    walk_at "y"
    exact RtC.same (q dn o μ1 (good_of hL) w1 ho0 e2)
  · walk_at "y"
    refine w_lcF (fun i : Nat => D.int (i : Int)) (fun x => if decide ((ownL (rowsS ss) x).filter (fun o => decide (o ∈ lf)) = []) = true then some (D.int (x : Int)) else none) (asL_adr e1) (sz_lt (by omega)) (fun x hx N3 N0 hN3 hN0 => ?_) (fun p9 hp9 => ?_)
    · have hxN := ((hL.mem x).mp hx).1
      obtain ⟨r1, r2⟩ := rows_at hxN
      walk_at "y"
      refine w_ixS (asS_adr hp1) (atI_nat r1) ?_
      walk_at "y"
      refine ⟨_, rfl, ?_⟩
      rw [← r2]
      walk_at "y"
      have ho2 : (ownL (rowsS ss) x).length ≤ 2 := by rw [r2]; exact own2 _
      refine w_lcF (fun i : Nat => D.int (i : Int)) (fun o => if decide (o ∈ lf) = true then some (D.int (o : Int)) else none) rfl (sz_lt (by omega)) (fun y hy N4 N5 hN4 hN5 => ?_) (fun p8 hp8 => ?_)
      · walk_at "y"
        refine w_inS (asS_adr e1) rfl (flat_nats _) ?_
        rw [inn_nats]
        walk_at "y"
        refine br_dec (fun h => ?_) (fun h => ?_)
        · walk_at "y"
          exact hN4 _ (if_pos (decide_eq_true h))
        · exact hN5 (if_neg (fun z => h (of_decide_eq_true z)))
      · rw [fm_nat]
        walk_at "y"
        refine w_eqN [] ?_
        walk_at "y"
        refine br_dec (fun h => ?_) (fun h => ?_)
        · walk_at "y"
          exact hN3 _ (if_pos (decide_eq_true h))
        · exact hN0 (if_neg (fun z => h (of_decide_eq_true z)))
    · rw [fm_nat (fun x => decide ((ownL (rowsS ss) x).filter (fun o => decide (o ∈ lf)) = []))]
      have hr := rdy_ne hlt h
      have hrl : (rdy (ownL (rowsS ss)) lf).length ≤ lf.length := List.length_filter_le _ _
      generalize hR : rdy (ownL (rowsS ss)) lf = R at *
      rw [show lf.filter (fun x => decide ((ownL (rowsS ss) x).filter (fun o => decide (o ∈ lf)) = [])) = R from hR]
      walk_at "y"
      rw [List.length_map]
      refine ⟨s, _, rfl, w1.1, by omega, by omega, fun k μ2 k0 k1 t2 => ?_⟩
      have w2 := w1.tk t2
      have f1 := t2.keep e1 (Ne.symm (fun z => nas z.symm))
      have f2 := t2.keep e2 nos
      obtain ⟨j, rfl⟩ : ∃ j : Nat, k = (j : Int) := ⟨k.toNat, by omega⟩
      have hj : j < R.length := by omega
      have hx : R[j]'hj ∈ rdy (ownL (rowsS ss)) lf := by rw [hR]; exact List.getElem_mem hj
      refine w_ixL (atI_nat (d := .int ((R[j]'hj : Nat) : Int)) (by rw [List.getElem?_map, List.getElem?_eq_getElem hj]; rfl)) ?_
      have hdn : (natD dn).length < 1000 := by
        have := hL.len
        have := List.length_pos_of_mem (rdy_mem hx).1
        rw [List.length_map]; omega
      generalize R[j]'hj = x at *
      walk_at "y"
      refine w_remK (ns := lf.map fun i : Nat => (i : Int)) (by rw [← natD_ints]; exact f1) (List.mem_map.mpr ⟨x, (rdy_mem hx).1, rfl⟩) ?_
      rw [nat_erase, ← natD_ints]
      walk_at "y"
      refine Y.Cl.at (by walk_at "less") Sub.refl ⟨_, ?_, dn ++ [x], lf.erase x, rfl, rfl, hL.next hlt hx, by walk_at "mu", by rw [natD_snoc]; exact mup_same, ?_⟩
      · have := List.length_erase_of_mem (rdy_mem hx).1
        have := List.length_pos_of_mem (rdy_mem hx).1
        omega
      · exact (w2.set ha nas).set ho0 nos
theorem cutD_take (ds : List D) (k : Nat) : Y.cutD ds none (some (k : Int)) = ds.take k := by
  unfold Y.cutD
  rw [HT.sIx_none, HT.sIx_nat, List.drop_zero, Nat.sub_zero]
  by_cases h : k ≤ ds.length
  · rw [Nat.min_eq_left h]
  · rw [Nat.min_eq_right (by omega), List.take_length, List.take_of_length_le (by omega)]
theorem cutD_drop (ds : List D) (k : Nat) : Y.cutD ds (some (k : Int)) none = ds.drop k := by
  unfold Y.cutD
  rw [HT.sIx_nat, show HT.sIx ds.length ds.length none = ds.length from rfl]
  by_cases h : k ≤ ds.length
  · rw [Nat.min_eq_left h, List.take_of_length_le (by rw [List.length_drop]; exact Nat.le_refl _)]
  · rw [Nat.min_eq_right (by omega), Nat.sub_self, List.take_zero, List.drop_eq_nil_of_le (by omega)]
theorem natD_take (l : List Nat) (k : Nat) : (natD l).take k = natD (l.take k) := List.map_take.symm
theorem natD_drop (l : List Nat) (k : Nat) : (natD l).drop k = natD (l.drop k) := List.map_drop.symm
theorem natD_app (a b : List Nat) : natD (a ++ b) = natD a ++ natD b := List.map_append
theorem natD_set (l : List Nat) (i x : Nat) : natD (l.set i x) = (natD l).set i (.int (x : Int)) := List.map_set
theorem natD_len (l : List Nat) : (natD l).length = l.length := List.length_map _
/-! ### _law_held -/
def spLheld : Sp2 := fun ds μ Q _ => ∃ (p : Addr) (x : D) (ss : List Lt) (l : List Nat), ds = [.adr p, x] ∧ μ p = some (.lst ((rowsS ss).map rwD)) ∧ asL μ x = some (natD l) ∧ Good ss l ∧ (rowsS ss).length ≤ 1000 ∧ ∀ f μ', μ f = none → Sub μ μ' → μ' f = some (.lst (natD (hN (ownL (rowsS ss)) [] l))) → Q (.adr f) μ'
theorem DLheld (T : Tt K mg cc) : Df P w K mg base "_law_held" 2 ["_law_parts_here", "_law_order_here"] (spLheld) := by
  have DLown := DLown (P := P) (w := w) (base := base) T
  refine T.xLheld.ok scLheld (by rintro ds μ Q E ⟨p, x, ss, l, rfl, hp, hx, hg, hl, q⟩ <;> rfl) (fun f cdv A outer s H E hr => ⟨_, _, (b_cons (s_set (i := 2) (e_fz (e_lst a_nil)) scLheld.nd rfl (by first | exact Or.inl rfl | exact Or.inr rfl))
      (b_cons (s_set (i := 3) (e_lst a_nil) scLheld.nd rfl (by first | exact Or.inl rfl | exact Or.inr rfl))
      (b_cons (s_for PassesOwn.never rfl (j_l (e_pv 1 (pv 1))) (g_nm (pg_name (i := 4) scLheld.nd rfl (by first | exact Or.inl rfl | exact Or.inr rfl)))
      (b_cons (s_set (i := 2) (e_fzL (e_add (e_fz (e_lc (own := [("_law_one", 5)]) rfl scLheld.nd (j_l (e_pv 2 (pv 2))) (blkOk_by (N := nLheld) (sc := defScope sLheld) (by decide +kernel)) (fun _ _ _ _ _ => ⟨_, (g_nm (pg_name (i := 5) scLheld.nd rfl (by first | exact Or.inl rfl | exact Or.inr rfl)))⟩) (fun _ _ _ _ _ => ⟨_, (ts_one (t_notIn (e_pv 5 (pv 5)) (e_call DLown hr (by rfl) (a_cons (e_ix (e_pv 0 (pv 0)) (e_pv 4 (pv 4)) (fun _ _ => rfl)) a_nil)) (by rfl)))⟩) (fun _ _ _ _ _ => ⟨_, (e_pv 5 (pv 5))⟩))) (e_fz (e_lst (a_cons (e_pv 4 (pv 4)) a_nil))))) scLheld.nd rfl (by first | exact Or.inl rfl | exact Or.inr rfl))
      (b_one (s_expr (e_app (e_pv 3 (pv 3)) (a_cons (e_len (by rfl) T.b_len (a_cons (e_pv 2 (pv 2)) a_nil)) a_nil))))))
      (b_one (s_ret (e_pv 3 (pv 3))))))), ?_⟩)
  rintro ds μ Q E ⟨p, x, ss, l, rfl, hp, hx, hg, hl, q⟩
  walk_at "y"
  intro f hf
  have hx1 := asL_sub (Sub.new (m := .lst []) hf) hx
  have npf : p ≠ f := fun z => by rw [z, hf] at hp; cases hp
  walk_at "y"
  refine Y.Cl.at (ρ' := start2 nLheld [.adr p, x, .lst [], .adr f]) (by walk_at "less") Sub.refl (w_turnsI (fun i : Nat => D.int (i : Int)) (fun dn ρ μ' => ρ = start2 nLheld [.adr p, x, .lst (natD (lvS (ownL (rowsS ss)) [] dn).reverse), .adr f] ∧ μ' f = some (.lst (natD (hN (ownL (rowsS ss)) [] dn))) ∧ μ' p = some (.lst ((rowsS ss).map rwD)) ∧ Sub μ μ') ?_ ?_ ?_ _ _ ⟨rfl, mup_same, by walk_at "mu", by walk_at "sub"⟩)
  · rintro dn _ μ1 ⟨rfl, e1, e2, u1⟩
    exact asL_sub u1 hx
  · rintro dn n rs he _ μ1 ⟨rfl, e1, e2, u1⟩ N hNx
    have hn : n < (rowsS ss).length := hg.lt n (by rw [he]; exact List.mem_append_right _ List.mem_cons_self)
    obtain ⟨r1, r2⟩ := rows_at hn
    have hdl := congrArg List.length he
    rw [hg.len, List.length_append, List.length_cons] at hdl
    have hk := OkS_split (he ▸ hg.ok)
    have hlv : (lvS (ownL (rowsS ss)) [] dn).length ≤ dn.length := by
      have := (lv_nodup hk.1 List.nodup_nil).length_le_of_subset (l₂ := dn) fun v hv => (lv_sub dn [] v hv).resolve_left (fun z => by cases z)
      exact this
    have hfl : (natD (hN (ownL (rowsS ss)) [] dn)).length < 1000 := by rw [natD_len, hN_len]; omega
    walk_at "y"
    refine w_lcF (fun i : Nat => D.int (i : Int)) (fun v => if (!decide (v ∈ ownL (rowsS ss) n)) = true then some (D.int (v : Int)) else none) rfl (sz_lt (by rw [List.length_reverse]; omega)) (fun v hv N3 N0 hN3 hN0 => ?_) (fun p9 hp9 => ?_)
    · walk_at "y"
      refine w_ixS (asS_adr e2) (atI_nat r1) ?_
      walk_at "y"
      refine ⟨_, rfl, ?_⟩
      rw [← r2]
      refine w_notInS rfl rfl (flat_nats _) ?_
      rw [inn_nats]
      walk_at "y"
      refine br_dec (fun h => ?_) (fun h => ?_)
      · exact hN0 (if_neg (by rw [decide_eq_true h]; decide))
      · walk_at "y"
        exact hN3 _ (if_pos (by rw [decide_eq_false h]; rfl))
    · rw [fm_nat (fun v => !decide (v ∈ ownL (rowsS ss) n)), List.filter_reverse]
      have e3 : natD ((lvS (ownL (rowsS ss)) [] dn).filter fun v => !decide (v ∈ ownL (rowsS ss) n)).reverse ++ [D.int (n : Int)] = natD (lvS (ownL (rowsS ss)) [] (dn ++ [n])).reverse := by
        rw [lvS_snoc, List.reverse_cons, natD_snoc]
      have hll : (lvS (ownL (rowsS ss)) [] (dn ++ [n])).length ≤ 1001 := by
        rw [lvS_snoc, List.length_cons]
        have := List.length_filter_le (fun v => !decide (v ∈ ownL (rowsS ss) n)) (lvS (ownL (rowsS ss)) [] dn)
        omega
      have hll2 : (natD (lvS (ownL (rowsS ss)) [] (dn ++ [n])).reverse).length ≤ 1001 := by rw [natD_len, List.length_reverse]; exact hll
      walk_at "y"
      rw [e3]
      walk_at "y"
      rw [natD_len, List.length_reverse]
      refine Y.Cl.at (by walk_at "less") Sub.refl (hNx _ _ ⟨rfl, ?_, ?_, ?_⟩)
      · rw [hN_snoc, natD_snoc]; exact mup_same
      · rw [mup_ne npf]; exact e2
      · exact fun b m hb => by rw [mup_ne (fun z => by rw [z, hf] at hb; cases hb)]; exact u1 b m hb
  · rintro _ μ1 ⟨rfl, e1, e2, u1⟩
    walk_at "y"
    exact RtC.same (q f _ hf u1 e1)
def smp (o : Addr) (d : D) : Prop := d = .non ∨ (∃ x, d = .str x) ∨ (∃ n, d = .int n) ∨ d = .adr o
def Bad (ss : List Lt) (o q : Addr) (d : D) : Prop := d = .non ∨ (∃ x, d = .str x) ∨ (∃ ds, d = .tup ds) ∨ d = .adr q ∨ ∃ ds, d = .lst ds ∧ ds.length ≤ 1000 ∧ (∀ x ∈ ds, smp o x) ∧ (ds.length = (rowsS ss).length → isOrd (rowsS ss) [] ds = false)
theorem smp_nat {o : Addr} {l : List Nat} : ∀ x ∈ natD l, smp o x := fun x hx => by
  obtain ⟨i, _, rfl⟩ := List.mem_map.mp hx
  exact .inr (.inr (.inl ⟨_, rfl⟩))
theorem smp_app {o : Addr} {a b : List D} (h : ∀ x ∈ a, smp o x) (g : ∀ x ∈ b, smp o x) : ∀ x ∈ a ++ b, smp o x := fun x hx => by
  rcases List.mem_append.mp hx with hx | hx
  · exact h x hx
  · exact g x hx
theorem smp_one {o : Addr} {d : D} (h : smp o d) : ∀ x ∈ [d], smp o x := fun x hx => by rw [List.mem_singleton.mp hx]; exact h
theorem smp_thing {μ : Mu} {o : Addr} {es : List D} (h : μ o = some (.lst es)) {d : D} (hd : smp o d) : Thing μ d := by
  rcases hd with rfl | ⟨x, rfl⟩ | ⟨n, rfl⟩ | rfl
  · exact thing_non
  · exact thing_str
  · exact thing_int
  · exact .inr ⟨rfl, _, tyD_lst h, .inr (.inr (.inr (.inl rfl)))⟩
theorem bad_ok {μ : Mu} {ss : List Lt} {o q : Addr} {es : List D} {d : D} (h : μ o = some (.lst es)) (hq : μ q = some (.dk [])) (hb : Bad ss o q d) : OrdT μ d ∧ isOrdD (rowsS ss) μ d = false := by
  rcases hb with rfl | ⟨x, rfl⟩ | ⟨ds, rfl⟩ | rfl | ⟨ds, rfl, h1, h2, h3⟩
  · exact ⟨.inr ⟨rfl, _, rfl, .inl rfl⟩, rfl⟩
  · exact ⟨.inr ⟨rfl, _, rfl, .inr (.inl rfl)⟩, rfl⟩
  · exact ⟨.inr ⟨rfl, _, rfl, .inr (.inr (.inl rfl))⟩, rfl⟩
  · have e : asL μ (.adr q) = none := by simp [asL, hq]
    exact ⟨.inr ⟨e, _, tyD_dk hq, .inr (.inr (.inr rfl))⟩, by unfold isOrdD; rw [e]⟩
  · refine ⟨.inl ⟨ds, rfl, h1, fun d hd => smp_thing h (h2 d hd)⟩, ?_⟩
    show (decide (ds.length = (rowsS ss).length) && isOrd (rowsS ss) [] ds) = false
    by_cases e : ds.length = (rowsS ss).length
    · rw [h3 e, Bool.and_false]
    · rw [decide_eq_false e, Bool.false_and]
theorem ord_all {L : List Rw} : ∀ {ds : List D} {ah : List Nat}, isOrd L ah ds = true → ∀ d ∈ ds, ∃ n : Nat, d = .int (n : Int) ∧ n < L.length
  | [], _, _, d, hd => by cases hd
  | .int n :: ds, ah, h, d, hd => by
    rw [isOrd_int] at h
    split at h
    · rename_i hc
      rcases List.mem_cons.mp hd with rfl | hd
      · exact ⟨n.toNat, by rw [Int.toNat_of_nonneg hc.1], by omega⟩
      · exact ord_all h d hd
    · cases h
  | .non :: _, _, h, _, _ => by cases h
  | .bl _ :: _, _, h, _, _ => by cases h
  | .str _ :: _, _, h, _, _ => by cases h
  | .ty _ :: _, _, h, _, _ => by cases h
  | .adr _ :: _, _, h, _, _ => by cases h
  | .tup _ :: _, _, h, _, _ => by cases h
  | .lst _ :: _, _, h, _, _ => by cases h
  | .obj _ _ _ :: _, _, h, _, _ => by cases h
  | .scr _ :: _, _, h, _, _ => by cases h
theorem ord_topo {L : List Rw} : ∀ {l ah : List Nat}, isOrd L ah (natD l) = true → Topo (ownL L) ah l
  | [], _, _ => trivial
  | n :: l, ah, h => by
    have h : isOrd L ah (.int (n : Int) :: natD l) = true := h
    rw [isOrd_int, Int.toNat_natCast] at h
    split at h
    · rename_i hc
      exact ⟨hc.2.2.2, hc.2.2.1, ord_topo h⟩
    · cases h
/-- an item that can't stand -/
theorem ord_bad {L : List Rw} {ds : List D} {d : D} (hd : d ∈ ds) (h : ∀ n : Nat, n < L.length → d ≠ .int (n : Int)) : isOrd L [] ds = false := by
  cases e : isOrd L [] ds with
  | false => rfl
  | true =>
    obtain ⟨n, h1, h2⟩ := ord_all e d hd
    exact absurd h1 (h n h2)
theorem ord_twice {L : List Rw} {l : List Nat} (h : ¬ l.Nodup) : isOrd L [] (natD l) = false := by
  cases e : isOrd L [] (natD l) with
  | false => rfl
  | true => exact absurd (topo_nd (ord_topo e)).1 h
theorem topo_ahead {own : Nat → List Nat} : ∀ {l ah : List Nat}, Topo own ah l → ∀ (i n : Nat), l[i]? = some n → ∀ o ∈ own n, o ∈ ah ∨ ∃ j, j < i ∧ l[j]? = some o
  | [], _, _, _, _, h, _, _ => by cases h
  | m :: l, ah, h, 0, n, e, o, ho => by
    have e : m = n := by injection e
    subst e
    exact .inl (h.1 o ho)
  | m :: l, ah, h, i + 1, n, e, o, ho => by
    rcases topo_ahead h.2.2 i n e o ho with z | ⟨j, hj, z⟩
    · rcases List.mem_cons.mp z with rfl | z
      · exact .inr ⟨0, Nat.succ_pos _, rfl⟩
      · exact .inl z
    · exact .inr ⟨j + 1, by omega, z⟩
/-- a part put ahead of one of its own -/
theorem ord_swap {L : List Rw} {l : List Nat} {i j n o : Nat} (hg : Topo (ownL L) [] l) (hi : l[i]? = some n) (hj : l[j]? = some o) (ho : o ∈ ownL L n) : isOrd L [] (natD ((l.set i o).set j n)) = false := by
  cases e : isOrd L [] (natD ((l.set i o).set j n)) with
  | false => rfl
  | true =>
    exfalso
    have hnd := (topo_nd hg).1
    have inj : ∀ a b v, l[a]? = some v → l[b]? = some v → a = b := fun a b v ha hb => by
      obtain ⟨a1, a2⟩ := List.getElem?_eq_some_iff.mp ha
      obtain ⟨b1, b2⟩ := List.getElem?_eq_some_iff.mp hb
      rcases Nat.lt_trichotomy a b with q | q | q
      · exact absurd (a2.trans b2.symm) (List.pairwise_iff_getElem.mp hnd a b a1 b1 q)
      · exact q
      · exact absurd (b2.trans a2.symm) (List.pairwise_iff_getElem.mp hnd b a b1 a1 q)
    obtain ⟨j0, hj0, e0⟩ : ∃ j0, j0 < i ∧ l[j0]? = some o := (topo_ahead hg i n hi o ho).resolve_left (fun z => by cases z)
    have ej := inj j0 j o e0 hj
    subst ej
    have hjl := (List.getElem?_eq_some_iff.mp hj).1
    have hil := (List.getElem?_eq_some_iff.mp hi).1
    rcases topo_ahead (ord_topo e) j0 n (by rw [List.getElem?_set_self (by rw [List.length_set]; exact hjl)]) o ho with z | ⟨k, hk, z⟩
    · cases z
    · rw [List.getElem?_set_ne (by omega), List.getElem?_set_ne (by omega)] at z
      have := inj k j0 o z hj
      omega
/-- where it stands first -/
def ixf (z : Nat) : List Nat → Nat
  | [] => 0
  | a :: l => if a = z then 0 else ixf z l + 1
theorem ixf_at {z : Nat} : ∀ {l : List Nat}, z ∈ l → l[ixf z l]? = some z ∧ ∀ m, m < ixf z l → l[m]? ≠ some z
  | [], h => by cases h
  | a :: l, h => by
    unfold ixf
    by_cases e : a = z
    · subst e
      rw [if_pos rfl]
      exact ⟨rfl, fun m hm => absurd hm (Nat.not_lt_zero _)⟩
    · rw [if_neg e]
      obtain ⟨h1, h2⟩ := ixf_at ((List.mem_cons.mp h).resolve_left (fun q => e q.symm))
      refine ⟨h1, fun m hm => ?_⟩
      cases m with
      | zero => exact fun q => e (by injection q)
      | succ m => exact h2 m (by omega)
theorem w_ixf {μ : Mu} {Q : DK} {x : D} {l : List Nat} {z : Nat} (h : asL μ x = some (natD l)) (hz : z ∈ l) (q : Q (.int (ixf z l : Nat)) μ) : dIndexA x [.int (z : Int)] μ Q := by
  obtain ⟨h1, h2⟩ := ixf_at hz
  refine w_indexAI (ys := l.map fun i : Nat => (i : Int)) _ (by rw [h, natD_ints]) (by rw [List.getElem?_map, h1]; rfl) (fun m hm e => ?_) q
  rw [List.getElem?_map] at e
  cases q2 : l[m]? with
  | none => rw [q2] at e; cases e
  | some y =>
    rw [q2] at e
    have : (y : Int) = (z : Int) := by injection e
    exact h2 m hm (by rw [q2, show y = z by omega])
def prD (p : Nat × Nat) : D := .tup [.int (p.1 : Nat), .int (p.2 : Nat)]
def PrOk (L : List Rw) (l : List Nat) (p : Nat × Nat) : Prop := ∃ n o, o ∈ ownL L n ∧ l[p.1]? = some n ∧ l[p.2]? = some o
theorem prs_shp {ps : List (Nat × Nat)} : D.shp 64 (.lst (ps.map prD)) = true := shpA_all (n := 63) fun d hd => by
  obtain ⟨p, _, rfl⟩ := List.mem_map.mp hd
  show D.shp 63 (D.tup [.int _, .int _]) = true
  rw [shp_tup, shpA_cons, shpA_cons, shpA_nil, shp_int, shp_int]; rfl
theorem prs_nil {ps : List (Nat × Nat)} : PyData.eqv (D.lst (ps.map prD)).py (D.lst []).py = decide (ps = []) := by
  cases ps with
  | nil => rw [decide_eq_true rfl]; exact eqv_self rfl (shp_natD (l := []))
  | cons p ps => rw [decide_eq_false (by simp)]; rfl
theorem ixN_nat {n i : Nat} (h : i < n) : ixN n (i : Int) = some i := by
  unfold ixN
  rw [if_pos (by omega), if_pos (by omega), Int.toNat_natCast]
theorem TkW.sub {s : Addr} {μ μ1 μ2 : Mu} (h : TkW s μ μ1) (u : Sub μ1 μ2) : TkW s μ μ2 := ⟨by obtain ⟨a, b, c, e⟩ := h.1; exact ⟨a, b, c, u _ _ e⟩, fun b m hb e => u b m (h.2 b m hb e)⟩
theorem TkW.noM {s p : Addr} {μ μ' : Mu} (h : TkW s μ μ') (hp : μ' p = none) : μ p = none := by
  cases q : μ p with
  | none => rfl
  | some m =>
    by_cases e : p = s
    · subst e
      obtain ⟨a, b, c, e2⟩ := h.1
      rw [hp] at e2; cases e2
    · rw [h.2 p m e q] at hp; cases hp
theorem ix_prev {l : List Nat} {j : Nat} (hj : j < l.length) (h : 1 < l.length) : ∃ i z, i ≠ j ∧ l[i]? = some z ∧ atI (natD l) ((j : Int) - 1) = some (.int (z : Int)) := by
  cases j with
  | zero =>
    have hl : l.length - 1 < l.length := by omega
    refine ⟨l.length - 1, l[l.length - 1]'hl, by omega, List.getElem?_eq_getElem hl, ?_⟩
    unfold atI
    have e : ixN (natD l).length (((0 : Nat) : Int) - 1) = some (l.length - 1) := by
      rw [natD_len]
      unfold ixN
      rw [if_neg (by omega), if_pos (by omega)]
      congr 1; omega
    rw [e]
    show (natD l)[l.length - 1]? = _
    rw [List.getElem?_map, List.getElem?_eq_getElem hl]; rfl
  | succ j =>
    have hl : j < l.length := by omega
    refine ⟨j, l[j]'hl, by omega, List.getElem?_eq_getElem hl, ?_⟩
    rw [show ((j + 1 : Nat) : Int) - 1 = (j : Int) by omega]
    exact atI_nat (by rw [List.getElem?_map, List.getElem?_eq_getElem hl]; rfl)
theorem not_nd {l : List Nat} {i j z : Nat} (hij : i ≠ j) (hi : l[i]? = some z) : ¬ (l.take j ++ [z] ++ l.drop (j + 1)).Nodup := fun h => by
  have hz : z ∈ l.take j ∨ z ∈ l.drop (j + 1) := by
    rcases Nat.lt_or_gt_of_ne hij with q | q
    · exact .inl (List.mem_of_getElem? (i := i) (by rw [List.getElem?_take_of_lt q]; exact hi))
    · exact .inr (List.mem_of_getElem? (i := i - (j + 1)) (by rw [List.getElem?_drop, show j + 1 + (i - (j + 1)) = i by omega]; exact hi))
  obtain ⟨h1, _, h3⟩ := List.nodup_append.mp h
  rcases hz with hz | hz
  · exact (List.nodup_append.mp h1).2.2 z hz z List.mem_cons_self rfl
  · exact h3 z (List.mem_append_right _ List.mem_cons_self) z hz rfl
/-! ### _law_no_orders -/
def spLno_orders : Sp2 := fun ds μ Q _ => ∃ (s p o : Addr) (ss : List Lt) (l : List Nat), ds = [.adr s, .adr p, .adr o] ∧ Strm μ s ∧ p ≠ s ∧ o ≠ s ∧ μ p = some (.lst ((rowsS ss).map rwD)) ∧ μ o = some (.lst (natD l)) ∧ Good ss l ∧ (rowsS ss).length ≤ 900 ∧ ∀ b q ds μ', μ b = none → TkW s μ μ' → μ' b = some (.lst ds) → μ' q = some (.dk []) → (∀ d ∈ ds, Bad ss o q d) → Q (.adr b) μ'
theorem DLno_orders (T : Tt K mg cc) : Df P w K mg base "_law_no_orders" 2 ["_law_stream_here", "_law_parts_here", "_law_order_here"] (spLno_orders) := by
  have DLtake := DLtake (P := P) (w := w) (base := base) T
  have DLown := DLown (P := P) (w := w) (base := base) T
  refine T.xLno_orders.ok scLno_orders (by rintro ds μ Q E ⟨s, p, o, ss, l, rfl, hS, nps, nos, hp, ho, hg, hl, q⟩ <;> rfl) (fun f cdv A outer s H E hr => ⟨_, _, (b_cons (s_set (i := 3) (e_lst (a_cons e_non (a_cons (e_tupOf (by rfl) T.b_tuple (a_cons (e_pv 2 (pv 2)) a_nil)) (a_cons e_str (a_cons (e_fzL (e_add (e_pv 2 (pv 2)) (e_fz (e_lst (a_cons (e_len (by rfl) T.b_len (a_cons (e_pv 1 (pv 1)) a_nil)) a_nil))))) (a_cons (e_fz (e_lst (a_cons (e_pv 2 (pv 2)) a_nil))) (a_cons e_dnew (a_cons (e_fzL (e_add (e_pv 2 (pv 2)) (e_fz (e_lst (a_cons (e_neg e_int) a_nil))))) a_nil)))))))) scLno_orders.nd rfl (by first | exact Or.inl rfl | exact Or.inr rfl))
      (b_consC (s_if (t_ne hr (e_pv 2 (pv 2)) (e_fz (e_lst a_nil)))
      (b_cons (s_set (i := 4) (e_call DLtake hr (by rfl) (a_cons (e_pv 0 (pv 0)) (a_cons (e_len (by rfl) T.b_len (a_cons (e_pv 2 (pv 2)) a_nil)) a_nil))) scLno_orders.nd rfl (by first | exact Or.inl rfl | exact Or.inr rfl))
      (b_cons (s_set (i := 5) (e_fzL (e_slice (e_pv 2 (pv 2)) o_none (o_some (e_pv 4 (pv 4))))) scLno_orders.nd rfl (by first | exact Or.inl rfl | exact Or.inr rfl))
      (b_cons (s_set (i := 6) (e_fzL (e_slice (e_pv 2 (pv 2)) (o_some (e_add (e_pv 4 (pv 4)) e_int)) o_none)) scLno_orders.nd rfl (by first | exact Or.inl rfl | exact Or.inr rfl))
      (b_cons (s_set (i := 3) (e_add (e_pv 3 (pv 3)) (e_fz (e_lst (a_cons (e_fzL (e_add (e_pv 5 (pv 5)) (e_pv 6 (pv 6)))) (a_cons (e_fzL (e_add (e_fzL (e_add (e_pv 5 (pv 5)) (e_fz (e_lst (a_cons (e_ix (e_pv 2 (pv 2)) (e_pv 4 (pv 4)) (fun _ _ => rfl)) a_nil))))) (e_fzL (e_slice (e_pv 2 (pv 2)) (o_some (e_pv 4 (pv 4))) o_none)))) (a_cons (e_fzL (e_add (e_fzL (e_add (e_pv 5 (pv 5)) (e_fz (e_lst (a_cons e_non a_nil))))) (e_pv 6 (pv 6)))) a_nil)))))) scLno_orders.nd rfl (by first | exact Or.inl rfl | exact Or.inr rfl))
      (b_cons (s_set (i := 3) (e_add (e_pv 3 (pv 3)) (e_fz (e_lst (a_cons (e_fzL (e_add (e_fzL (e_add (e_pv 5 (pv 5)) (e_fz (e_lst (a_cons (e_len (by rfl) T.b_len (a_cons (e_pv 1 (pv 1)) a_nil)) a_nil))))) (e_pv 6 (pv 6)))) (a_cons (e_fzL (e_add (e_fzL (e_add (e_pv 5 (pv 5)) (e_fz (e_lst (a_cons (e_strI (by rfl) T.b_str (a_cons (e_ix (e_pv 2 (pv 2)) (e_pv 4 (pv 4)) (fun _ _ => rfl)) a_nil)) a_nil))))) (e_pv 6 (pv 6)))) a_nil))))) scLno_orders.nd rfl (by first | exact Or.inl rfl | exact Or.inr rfl))
      (b_cons (s_expr (e_app (e_pv 3 (pv 3)) (a_cons (e_fzL (e_add (e_fzL (e_add (e_pv 5 (pv 5)) (e_fz (e_lst (a_cons (e_sub (e_ix (e_pv 2 (pv 2)) (e_pv 4 (pv 4)) (fun _ _ => rfl)) (e_len (by rfl) T.b_len (a_cons (e_pv 1 (pv 1)) a_nil))) a_nil))))) (e_pv 6 (pv 6)))) a_nil)))
      (b_one (s_if (t_gt (e_len (by rfl) T.b_len (a_cons (e_pv 2 (pv 2)) a_nil)) e_int)
      (b_one (s_expr (e_app (e_pv 3 (pv 3)) (a_cons (e_fzL (e_add (e_fzL (e_add (e_pv 5 (pv 5)) (e_fz (e_lst (a_cons (e_ix (e_pv 2 (pv 2)) (e_sub (e_pv 4 (pv 4)) e_int) (fun _ _ => rfl)) a_nil))))) (e_pv 6 (pv 6)))) a_nil))))
      b_nil))))))))
      b_nil)
      (b_cons (s_set (i := 7) (e_lst a_nil) scLno_orders.nd rfl (by first | exact Or.inl rfl | exact Or.inr rfl))
      (b_cons (s_for PassesOwn.never rfl (j_e (by rfl) T.b_enumerate (a_cons (e_pv 1 (pv 1)) a_nil)) (g_un (n := 2) rfl (gs_cons (g_nm (pg_name (i := 8) scLno_orders.nd rfl (by first | exact Or.inl rfl | exact Or.inr rfl))) (gs_cons (g_nm (pg_name (i := 9) scLno_orders.nd rfl (by first | exact Or.inl rfl | exact Or.inr rfl))) gs_nil)))
      (b_one (s_expr (e_extend (e_pv 7 (pv 7)) (a_cons (e_fz (e_lc (own := [("_law_own_here", 14)]) rfl scLno_orders.nd (j_l (e_call DLown hr (by rfl) (a_cons (e_pv 9 (pv 9)) a_nil))) (blkOk_by (N := nLno_orders) (sc := defScope sLno_orders) (by decide +kernel)) (fun _ _ _ _ _ => ⟨_, (g_nm (pg_name (i := 14) scLno_orders.nd rfl (by first | exact Or.inl rfl | exact Or.inr rfl)))⟩) (fun _ _ _ _ _ => ⟨_, ts_none⟩) (fun _ _ _ _ _ => ⟨_, (e_tup (a_cons (e_indexA (e_pv 2 (pv 2)) (a_cons (e_pv 8 (pv 8)) a_nil)) (a_cons (e_indexA (e_pv 2 (pv 2)) (a_cons (e_pv 14 (pv 14)) a_nil)) a_nil)))⟩))) a_nil)))))
      (b_cons (s_for PassesOwn.never rfl (j_r1 (by rfl) T.b_range (a_cons (e_mulA e_int (e_int1 (by rfl) T.b_int (a_cons (e_ne hr (e_pv 7 (pv 7)) (e_fz (e_lst a_nil))) a_nil))) a_nil)) (g_nm (pg_name (i := 10) scLno_orders.nd rfl (by first | exact Or.inl rfl | exact Or.inr rfl)))
      (b_cons (s_asg (e_ix (e_pv 7 (pv 7)) (e_call DLtake hr (by rfl) (a_cons (e_pv 0 (pv 0)) (a_cons (e_len (by rfl) T.b_len (a_cons (e_pv 7 (pv 7)) a_nil)) a_nil))) (fun _ _ => rfl)) (g_un (n := 2) rfl (gs_cons (g_nm (pg_name (i := 11) scLno_orders.nd rfl (by first | exact Or.inl rfl | exact Or.inr rfl))) (gs_cons (g_nm (pg_name (i := 12) scLno_orders.nd rfl (by first | exact Or.inl rfl | exact Or.inr rfl))) gs_nil))))
      (b_cons (s_set (i := 13) (e_listOf (by rfl) T.b_list (a_cons (e_pv 2 (pv 2)) a_nil)) scLno_orders.nd rfl (by first | exact Or.inl rfl | exact Or.inr rfl))
      (b_cons (s_setIx (e_ix (e_pv 2 (pv 2)) (e_pv 12 (pv 12)) (fun _ _ => rfl)) (e_pv 13 (pv 13)) (e_pv 11 (pv 11)))
      (b_consC (s_setIx (e_ix (e_pv 2 (pv 2)) (e_pv 11 (pv 11)) (fun _ _ => rfl)) (e_pv 13 (pv 13)) (e_pv 12 (pv 12)))
      (b_one (s_expr (e_app (e_pv 3 (pv 3)) (a_cons (e_pv 13 (pv 13)) a_nil)))))))))
      (b_one (s_ret (e_pv 3 (pv 3))))))))), ?_⟩)
  rintro ds μ Q E ⟨s, p, o, ss, l, rfl, hS, nps, nos, hp, ho, hg, hl, q⟩
  have hlen := hg.len
  have hno : (natD l).length ≤ 900 := by rw [natD_len, hlen]; exact hl
  walk_at "y"
  rename_i a1 n1 a2 n2 a3 n3 q0 nq a4 n4 a5 n5
  have nqs := hS.ne nq
  have oq : o ≠ q0 := fun z => by rw [z, nq] at ho; cases ho
  intro b nb
  have nb0 : μ b = none := none_sub (Sub.new nq) nb
  have nbs := hS.ne nb0
  have nbq : b ≠ q0 := ne_of_mup nb
  have w0 := ((TkW.refl hS).up (m := .dk []) nq)
  have nlen : ∀ {x : D}, (natD l ++ [x]).length ≠ (rowsS ss).length := fun {x} => by rw [List.length_append, natD_len, List.length_singleton]; omega
  have bad1 : ∀ {x : D}, smp o x → Bad ss o q0 (.lst (natD l ++ [x])) := fun {x} hx => .inr (.inr (.inr (.inr ⟨_, rfl, by rw [List.length_append, natD_len, List.length_singleton]; omega, smp_app smp_nat (smp_one hx), fun e => absurd e nlen⟩)))
  have si : ∀ {n : Int}, smp o (.int n) := fun {n} => .inr (.inr (.inl ⟨n, rfl⟩))
  have hb0 : ∀ d ∈ [D.non, D.tup (natD l), D.str (Str.ofString "0"), D.lst (natD l ++ [D.int ((((rowsS ss).map rwD).length : Nat) : Int)]), D.lst [D.adr o], D.adr q0, D.lst (natD l ++ [D.int (-1)])], Bad ss o q0 d := fun d hd => by
    simp only [List.mem_cons, List.not_mem_nil, or_false] at hd
    rcases hd with rfl | rfl | rfl | rfl | rfl | rfl | rfl
    · exact .inl rfl
    · exact .inr (.inr (.inl ⟨_, rfl⟩))
    · exact .inr (.inl ⟨_, rfl⟩)
    · exact bad1 si
    · exact .inr (.inr (.inr (.inr ⟨_, rfl, by show 1 ≤ 1000; decide, smp_one (.inr (.inr (.inr rfl))), fun _ => rfl⟩)))
    · exact .inr (.inr (.inr (.inl rfl)))
    · exact bad1 si
  walk_at "y"
  refine w_seqK (fun ρ μ' => ∃ b ds, ρ = start2 nLno_orders [.adr s, .adr p, .adr o, .adr b] ∧ μ b = none ∧ b ≠ q0 ∧ μ' b = some (.lst ds) ∧ μ' q0 = some (.dk []) ∧ (∀ d ∈ ds, Bad ss o q0 d) ∧ ds.length ≤ 100 ∧ TkW s μ μ') ?_ ?_
  · rintro _ μ1 ⟨b1, ds1, rfl, hb1, hb1q, e1, eq1, hbd, hdl, w1⟩
    have hp1 := w1.2 p _ nps hp
    have ho1 := w1.2 o _ nos ho
    have nb1s := hS.ne hb1
    walk_at "y"
    intro pp npp
    have npp0 : μ pp = none := w1.noM npp
    have npps := hS.ne npp0
    have w2 := w1.up (m := .lst []) npp
    have ppb : b1 ≠ pp := fun z => by rw [z, npp] at e1; cases e1
    have ppq : q0 ≠ pp := fun z => by rw [z, npp] at eq1; cases eq1
    have ppp : p ≠ pp := fun z => by rw [z, npp] at hp1; cases hp1
    have ppo : o ≠ pp := fun z => by rw [z, npp] at ho1; cases ho1
    walk_at "y"
    refine Y.Cl.at (ρ' := start2 nLno_orders [.adr s, .adr p, .adr o, .adr b1] |>.set 7 (some (.adr pp))) (by walk_at "less") Sub.refl (w_turnsE rwD (fun dn ρ μ' => ρ = (start2 nLno_orders [.adr s, .adr p, .adr o, .adr b1]).set 7 (some (.adr pp)) ∧ ∃ ps, μ' = mup μ1 pp (.lst (ps.map prD)) ∧ (∀ x ∈ ps, PrOk (rowsS ss) l x) ∧ ps.length ≤ 2 * dn.length) ?_ ?_ ?_ _ _ ⟨rfl, [], rfl, (fun _ h => by cases h), Nat.le_refl _⟩)
    · rintro dn _ _ ⟨rfl, ps, rfl, _, _⟩
      show asL _ _ = _
      exact asL_adr (by walk_at "mu")
    · rintro dn r rs he _ _ ⟨rfl, ps, rfl, hps, hpl⟩ N hNx
      have hdn : dn.length < (rowsS ss).length := by rw [he, List.length_append, List.length_cons]; omega
      have hr : (rowsS ss)[dn.length]? = some r := by rw [he, List.getElem?_append_right (Nat.le_refl _), Nat.sub_self]; rfl
      have hr2 : ownL (rowsS ss) dn.length = ownR r := by unfold ownL; rw [hr]
      have hin : ∀ n, n < (rowsS ss).length → n ∈ l := fun n hn => hg.perm.mem_iff.mpr (List.mem_range.mpr hn)
      have ho2 := own2 r
      have ho3 : (ownL (rowsS ss) dn.length).length ≤ 2 := by rw [hr2]; exact ho2
      walk_at "y"
      refine ⟨_, rfl, ?_⟩
      rw [← hr2]
      walk_at "y"
      refine w_lcM (fun i : Nat => D.int (i : Int)) (fun i => prD (ixf dn.length l, ixf i l)) rfl (sz_lt (by rw [hr2]; omega)) (fun i hi N3 N0 hN3 => ?_) (fun p9 hp9 => ?_)
      · walk_at "y"
        refine w_ixf (asL_adr (by walk_at "mu")) (hin _ hdn) ?_
        walk_at "y"
        refine w_ixf (asL_adr (by walk_at "mu")) (hin _ (Nat.lt_trans ((own_S ss).lt _ i hi) hdn)) ?_
        walk_at "y"
        exact hN3
      · walk_at "y"
        rw [mup_mup]
        refine Y.Cl.at (by walk_at "less") Sub.refl (hNx _ _ ⟨rfl, ps ++ (ownL (rowsS ss) dn.length).map fun i => (ixf dn.length l, ixf i l), ?_, ?_, ?_⟩)
        · rw [List.map_append, List.map_map]; rfl
        · intro x hx
          rcases List.mem_append.mp hx with hx | hx
          · exact hps x hx
          · obtain ⟨i, hi, rfl⟩ := List.mem_map.mp hx
            exact ⟨dn.length, i, hi, (ixf_at (hin _ hdn)).1, (ixf_at (hin _ (Nat.lt_trans ((own_S ss).lt _ i hi) hdn))).1⟩
        · rw [List.length_append, List.length_map, List.length_append, List.length_singleton]; omega
    · rintro _ _ ⟨rfl, ps, rfl, hps, hpl⟩
      walk_at "y"
      refine w_neD (by rw [rsv_adr mup_same]; exact prs_shp) (shp_natD (l := [])) ?_
      rw [rsv_adr mup_same]
      rw [show PyData.eqv (D.lst (ps.map prD)).py (rsv (mup μ1 pp (.lst (ps.map prD))) (.lst [])).py = decide (ps = []) from prs_nil]
      walk_at "y"
      obtain ⟨v, hv, v0, v1, vz⟩ : ∃ v : Int, (if (!decide (ps = [])) = true then (1 : Int) else 0) = v ∧ 0 ≤ v ∧ v ≤ 1 ∧ (0 < v → ps ≠ []) := by
        by_cases e : ps = []
        · exact ⟨0, by rw [decide_eq_true e]; rfl, by omega, by omega, fun z => by omega⟩
        · exact ⟨1, by rw [decide_eq_false e]; rfl, by omega, by omega, fun _ => e⟩
      rw [hv]
      walk_at "y"
      have npos : ∀ z : Nat, z ≠ 0 → 0 < z := fun z h => by omega
      refine Y.Cl.at (ρ' := (start2 nLno_orders [.adr s, .adr p, .adr o, .adr b1]).set 7 (some (.adr pp))) (by walk_at "less") Sub.refl (w_turnsR (fun i ρ μ' => ρ = (start2 nLno_orders [.adr s, .adr p, .adr o, .adr b1]).set 7 (some (.adr pp)) ∧ ∃ ds, μ' b1 = some (.lst ds) ∧ μ' pp = some (.lst (ps.map prD)) ∧ μ' q0 = some (.dk []) ∧ (∀ d ∈ ds, Bad ss o q0 d) ∧ ds.length ≤ 100 + i ∧ TkW s μ μ') (fun _ _ _ _ => trivial) ?_ ?_ _ _ ⟨rfl, ds1, by walk_at "mu", mup_same, by walk_at "mu", hbd, by omega, w1.up npp⟩)
      · rintro i hi _ μ3 ⟨rfl, ds, k1, k2, k3, k4, k5, w3⟩ N hNx
        have hps0 : ps ≠ [] := vz (by omega)
        have hpos := List.length_pos_iff.mpr hps0
        have ho3 := w3.2 o _ nos ho
        walk_at "y"
        rw [List.length_map]
        refine ⟨s, _, rfl, w3.1, by omega, by omega, fun k μ4 h0 h1 t4 => ?_⟩
        obtain ⟨j, rfl⟩ : ∃ j : Nat, k = (j : Int) := ⟨k.toNat, by omega⟩
        have hj : j < ps.length := by omega
        have w4 := w3.tk t4
        have j1 := t4.keep k1 nb1s
        have j2 := t4.keep k2 npps
        have j3 := t4.keep k3 nqs
        have j4 := w4.2 o _ nos ho
        obtain ⟨n, x, hx1, hx2, hx3⟩ := hps _ (List.getElem_mem hj)
        refine w_ixS (asS_adr j2) (atI_nat (d := prD (ps[j]'hj)) (by rw [List.getElem?_map, List.getElem?_eq_getElem hj]; rfl)) ?_
        generalize ps[j]'hj = pr at *
        obtain ⟨ia, ib⟩ := pr
        have hia := (List.getElem?_eq_some_iff.mp hx2).1
        have hib := (List.getElem?_eq_some_iff.mp hx3).1
        rw [show prD (ia, ib) = .tup [.int (ia : Nat), .int (ib : Nat)] from rfl]
        walk_at "yc"
        intro z nz
        have nz0 : μ z = none := w4.noM nz
        have nzs := hS.ne nz0
        have zb : b1 ≠ z := fun q => by rw [q, nz] at j1; cases j1
        have zp : pp ≠ z := fun q => by rw [q, nz] at j2; cases j2
        have zq : q0 ≠ z := fun q => by rw [q, nz] at j3; cases j3
        have zo : o ≠ z := fun q => by rw [q, nz] at j4; cases j4
        walk_at "yc"
        refine w_ixS (asS_adr (p := o) (ds := natD l) (by walk_at "mu")) (atI_nat (by rw [List.getElem?_map, hx3]; rfl)) ?_
        walk_at "yc"
        refine w_gIxK mup_same (ixN_nat (by rw [natD_len]; exact hia)) ?_
        walk_at "yc"
        refine w_seqC ?_
        walk_at "yc"
        refine w_ixS (asS_adr (p := o) (ds := natD l) (by walk_at "mu")) (atI_nat (by rw [List.getElem?_map, hx2]; rfl)) ?_
        walk_at "yc"
        refine w_gIxK mup_same (ixN_nat (by rw [List.length_set, natD_len]; exact hib)) ?_
        rw [mup_mup, mup_mup]
        refine Y.Cl.frz 13 mup_same rfl ?_
        rw [mdel_mup nz]
        rw [show ((natD l).set ia (D.int (x : Int))).set ib (D.int (n : Int)) = natD ((l.set ia x).set ib n) by rw [natD_set, natD_set]]
        have hz : Bad ss o q0 (.lst (natD ((l.set ia x).set ib n))) := .inr (.inr (.inr (.inr ⟨_, rfl, by rw [natD_len, List.length_set, List.length_set]; omega, smp_nat, fun _ => ord_swap hg.tp hx2 hx3 hx1⟩)))
        walk_at "yc"
        refine Y.Cl.at (by walk_at "less") Sub.refl (hNx _ _ ⟨rfl, _, mup_same, by walk_at "mu", by walk_at "mu", List.forall_mem_append.mpr ⟨k4, List.forall_mem_cons.mpr ⟨hz, fun _ h => by cases h⟩⟩, by rw [List.length_append, List.length_singleton]; omega, w4.set hb1 nb1s⟩)
      · rintro _ μ3 ⟨rfl, ds, k1, k2, k3, k4, k5, w3⟩
        walk_at "y"
        exact RtC.same (q b1 q0 ds μ3 hb1 w3 k1 k3 k4)
  · rintro T hT
    have e0 := w0.up (m := .lst []) nb
    have next : ∀ b ds μ', μ b = none → b ≠ q0 → μ' b = some (.lst ds) → μ' q0 = some (.dk []) → (∀ d ∈ ds, Bad ss o q0 d) → ds.length ≤ 100 → TkW s μ μ' → Y.Cl T (start2 nLno_orders [.adr s, .adr p, .adr o, .adr b]) μ' := fun b ds μ' h1 h2 h3 h4 h5 h6 h7 => Y.Cl.same (hT _ _ ⟨b, ds, rfl, h1, h2, h3, h4, h5, h6, h7⟩)
    walk_at "y"
    refine w_neN [] (by walk_at "mu") ?_
    walk_at "y"
    refine br_dec (fun h => ?_) (fun h => ?_)
    · subst h
      walk_at "y"
      exact next _ _ _ nb0 nbq (by walk_at "mu") (by walk_at "mu") hb0 (by show 7 ≤ 100; decide) ((w0).up nb)
    · have hpos : 0 < l.length := List.length_pos_iff.mpr h
      walk_at "y"
      rw [natD_len]
      refine ⟨s, _, rfl, (w0.up nb).1, by omega, by omega, fun k μ2 k0 k1 t2 => ?_⟩
      obtain ⟨j, rfl⟩ : ∃ j : Nat, k = (j : Int) := ⟨k.toNat, by omega⟩
      have hj : j < l.length := by omega
      obtain ⟨y, hy⟩ : ∃ y, l[j]? = some y := ⟨_, List.getElem?_eq_getElem hj⟩
      have w2 := (w0.up nb).tk t2
      have f1 := t2.keep (show mup (mup μ q0 (MO.dk [])) b _ b = some _ from mup_same) nbs
      have f2 := w2.2 o _ nos ho
      have f4 := w2.2 p _ nps hp
      have f3 : μ2 q0 = some (.dk []) := t2.keep (by rw [mup_ne (Ne.symm nbq)]; exact mup_same) nqs
      have d1 : Y.cutD (natD l) none (some (j : Int)) = natD (l.take j) := by rw [cutD_take, natD_take]
      have d2 : Y.cutD (natD l) (some ((j : Int) + 1)) none = natD (l.drop (j + 1)) := by rw [show (j : Int) + 1 = ((j + 1 : Nat) : Int) from rfl, cutD_drop, natD_drop]
      have d3 : Y.cutD (natD l) (some (j : Int)) none = natD (l.drop j) := by rw [cutD_drop, natD_drop]
      have c1 : (Y.cutD (natD l) none (some (j : Int))).length ≤ 900 := by rw [d1, natD_len, List.length_take]; omega
      have c2 : (Y.cutD (natD l) (some ((j : Int) + 1)) none).length ≤ 900 := by rw [d2, natD_len, List.length_drop]; omega
      have c3 : (Y.cutD (natD l) (some (j : Int)) none).length ≤ 900 := by rw [d3, natD_len, List.length_drop]; omega
      walk_at "y"
      refine w_ixS (asS_adr f2) (atI_nat (by rw [List.getElem?_map, hy]; rfl)) ?_
      walk_at "y"
      rw [d1, d2, d3]
      rw [d1] at c1
      rw [d2] at c2
      rw [d3] at c3
      have c4 : (l.take j).length ≤ 900 := by rw [← natD_len]; exact c1
      have c5 : (l.drop (j + 1)).length ≤ 900 := by rw [← natD_len]; exact c2
      have c6 : (l.drop j).length ≤ 900 := by rw [← natD_len]; exact c3
      have hyN : y < (rowsS ss).length := hg.lt y (List.mem_of_getElem? hy)
      have hno2 : o ≠ b := fun z => by rw [z, nb0] at ho; cases ho
      intro b2 nb2
      walk_at "y"
      refine w_ixS (asS_adr (p := o) (ds := natD l) (by walk_at "mu")) (atI_nat (by rw [List.getElem?_map, hy]; rfl)) ?_
      walk_at "y"
      intro b3 nb3
      walk_at "y"
      refine w_ixS (asS_adr (p := o) (ds := natD l) (by walk_at "mu")) (atI_nat (by rw [List.getElem?_map, hy]; rfl)) ?_
      walk_at "y"
      have nb20 : μ b2 = none := w2.noM nb2
      have nb31 : μ2 b3 = none := none_sub (Sub.new nb2) nb3
      have nb30 : μ b3 = none := w2.noM nb31
      have nb3q : b3 ≠ q0 := fun z => by rw [z, f3] at nb31; cases nb31
      have q2 : q0 ≠ b2 := fun z => by rw [z, nb2] at f3; cases f3
      have w3 := (w2.up (m := .lst ([D.non, D.tup (natD l), D.str (Str.ofString "0"), D.lst (natD l ++ [D.int ((((rowsS ss).map rwD).length : Nat) : Int)]), D.lst [D.adr o], D.adr q0, D.lst (natD l ++ [D.int (-1)])] ++
              [D.lst (natD (l.take j) ++ natD (l.drop (j + 1))), D.lst (natD (l.take j) ++ [D.int (y : Int)] ++ natD (l.drop j)), D.lst (natD (l.take j) ++ [D.non] ++ natD (l.drop (j + 1)))])) nb2)
      have w4 := fun m => w3.set (m := m) nb30 (hS.ne nb30)
      have hN : (((rowsS ss).map rwD).length : Int) = ((rowsS ss).length : Int) := by rw [List.length_map]
      have badL : ∀ {ds : List D}, ds.length ≤ 1000 → (∀ x ∈ ds, smp o x) → (ds.length = (rowsS ss).length → isOrd (rowsS ss) [] ds = false) → Bad ss o q0 (.lst ds) := fun {ds} h1 h2 h3 => .inr (.inr (.inr (.inr ⟨ds, rfl, h1, h2, h3⟩)))
      have l1 : (l.take j).length = j := by rw [List.length_take]; omega
      have l2 : (l.drop (j + 1)).length = l.length - (j + 1) := List.length_drop
      have l3 : (l.drop j).length = l.length - j := List.length_drop
      have mid : ∀ {d : D}, smp o d → (∀ n : Nat, n < (rowsS ss).length → d ≠ .int (n : Int)) → Bad ss o q0 (.lst (natD (l.take j) ++ [d] ++ natD (l.drop (j + 1)))) := fun {d} h1 h2 => badL (by rw [List.length_append, List.length_append, natD_len, natD_len, List.length_singleton]; omega) (smp_app (smp_app smp_nat (smp_one h1)) smp_nat) fun _ => ord_bad (List.mem_append_left _ (List.mem_append_right _ List.mem_cons_self)) h2
      have g1 : Bad ss o q0 (.lst (natD (l.take j) ++ natD (l.drop (j + 1)))) := badL (by rw [List.length_append, natD_len, natD_len]; omega) (smp_app smp_nat smp_nat) fun e => by rw [List.length_append, natD_len, natD_len] at e; omega
      have g2 : Bad ss o q0 (.lst (natD (l.take j) ++ [D.int (y : Int)] ++ natD (l.drop j))) := badL (by rw [List.length_append, List.length_append, natD_len, natD_len, List.length_singleton]; omega) (smp_app (smp_app smp_nat (smp_one si)) smp_nat) fun e => by rw [List.length_append, List.length_append, natD_len, natD_len, List.length_singleton] at e; omega
      have g3 : Bad ss o q0 (.lst (natD (l.take j) ++ [D.non] ++ natD (l.drop (j + 1)))) := mid (.inl rfl) fun n _ z => by cases z
      have g4 : Bad ss o q0 (.lst (natD (l.take j) ++ [D.int ((((rowsS ss).map rwD).length : Nat) : Int)] ++ natD (l.drop (j + 1)))) := mid si fun n hn z => by injection z with z; omega
      have g5 : Bad ss o q0 (.lst (natD (l.take j) ++ [D.str (toString ((y : Nat) : Int))] ++ natD (l.drop (j + 1)))) := mid (.inr (.inl ⟨_, rfl⟩)) fun n _ z => by cases z
      have g6 : Bad ss o q0 (.lst (natD (l.take j) ++ [D.int ((y : Int) - ((((rowsS ss).map rwD).length : Nat) : Int))] ++ natD (l.drop (j + 1)))) := mid si fun n hn z => by injection z with z; omega
      refine br_dec (fun h2 => ?_) (fun h2 => ?_)
      · obtain ⟨i, z, hij, hi, hz⟩ := ix_prev hj (by rw [natD_len] at h2; omega)
        have g7 : Bad ss o q0 (.lst (natD (l.take j) ++ [D.int (z : Int)] ++ natD (l.drop (j + 1)))) := badL (by rw [List.length_append, List.length_append, natD_len, natD_len, List.length_singleton]; omega) (smp_app (smp_app smp_nat (smp_one si)) smp_nat) fun _ => by
          rw [show natD (l.take j) ++ [D.int (z : Int)] ++ natD (l.drop (j + 1)) = natD (l.take j ++ [z] ++ l.drop (j + 1)) by rw [natD_app, natD_app]; rfl]
          exact ord_twice (not_nd hij hi)
        walk_at "y"
        refine w_ixS (asS_adr (p := o) (ds := natD l) (by walk_at "mu")) hz ?_
        walk_at "y"
        refine Y.Cl.at (ρ' := start2 nLno_orders [.adr s, .adr p, .adr o, .adr b3]) (by walk_at "less") Sub.refl (hT _ _ ⟨b3, _, rfl, nb30, nb3q, mup_same, by walk_at "mu", ?_, ?_, (((w2.up nb2).set nb30 (hS.ne nb30)).set nb30 (hS.ne nb30)).set nb30 (hS.ne nb30)⟩)
        · exact List.forall_mem_append.mpr ⟨List.forall_mem_append.mpr ⟨List.forall_mem_append.mpr ⟨List.forall_mem_append.mpr ⟨hb0, List.forall_mem_cons.mpr ⟨g1, List.forall_mem_cons.mpr ⟨g2, List.forall_mem_cons.mpr ⟨g3, fun _ h => by cases h⟩⟩⟩⟩, List.forall_mem_cons.mpr ⟨g4, List.forall_mem_cons.mpr ⟨g5, fun _ h => by cases h⟩⟩⟩, List.forall_mem_cons.mpr ⟨g6, fun _ h => by cases h⟩⟩, List.forall_mem_cons.mpr ⟨g7, fun _ h => by cases h⟩⟩
        · show 14 ≤ 100; decide
      · walk_at "y"
        refine Y.Cl.at (ρ' := start2 nLno_orders [.adr s, .adr p, .adr o, .adr b3]) (by walk_at "less") Sub.refl (hT _ _ ⟨b3, _, rfl, nb30, nb3q, mup_same, by walk_at "mu", ?_, ?_, ((w2.up nb2).set nb30 (hS.ne nb30)).set nb30 (hS.ne nb30)⟩)
        · exact List.forall_mem_append.mpr ⟨List.forall_mem_append.mpr ⟨List.forall_mem_append.mpr ⟨hb0, List.forall_mem_cons.mpr ⟨g1, List.forall_mem_cons.mpr ⟨g2, List.forall_mem_cons.mpr ⟨g3, fun _ h => by cases h⟩⟩⟩⟩, List.forall_mem_cons.mpr ⟨g4, List.forall_mem_cons.mpr ⟨g5, fun _ h => by cases h⟩⟩⟩, List.forall_mem_cons.mpr ⟨g6, fun _ h => by cases h⟩⟩
        · show 13 ≤ 100; decide
/-! ### _law_right -/
def spLright : Sp2 := fun ds μ Q _ => ∃ (s p : Addr) (ss : List Lt), ds = [.adr s, .tup (ss.map ltD), .adr p, .int ((pk 0 ((fallT ss).map fun t => need t.1) : Nat) : Int)] ∧ Strm μ s ∧ p ≠ s ∧ μ p = some (.lst ((rowsS ss).map rwD)) ∧ ss.length ≤ 20 ∧ (∀ s ∈ ss, stDep s ≤ 3) ∧ ∀ μ', TkW s μ μ' → Q (.bl true) μ'
theorem DLright (T : Tt K mg cc) : Df P w K mg base "_law_right" 9 ["_law_stream_here", "_law_sets_here", "_law_parts_here", "_law_needed"] (spLright) := by
  have Dheld_by := Dheld_by (P := P) (w := w) (base := base) T
  have DLorder := DLorder (P := P) (w := w) (base := base) T
  have DLheld := DLheld (P := P) (w := w) (base := base) T
  have DLno_orders := DLno_orders (P := P) (w := w) (base := base) T
  refine T.xLright.ok scLright (by rintro ds μ Q E ⟨s, p, ss, rfl, hS, nps, hp, hn, hd, q⟩ <;> rfl) (fun f cdv A outer s H E hr => ⟨_, _, (b_cons (s_set (i := 4) (e_call DLorder hr (by rfl) (a_cons (e_pv 0 (pv 0)) (a_cons (e_pv 2 (pv 2)) a_nil))) scLright.nd rfl (by first | exact Or.inl rfl | exact Or.inr rfl))
      (b_cons (s_set (i := 5) (e_fz (e_listOf (by rfl) T.b_list (a_cons (e_pv 4 (pv 4)) a_nil))) scLright.nd rfl (by first | exact Or.inl rfl | exact Or.inr rfl))
      (b_cons (s_set (i := 6) (e_call Dheld_by hr (by rfl) (a_cons (e_pv 1 (pv 1)) (a_cons (e_pv 5 (pv 5)) a_nil))) scLright.nd rfl (by first | exact Or.inl rfl | exact Or.inr rfl))
      (b_cons (s_if (t_w (k_or (t_not (t_val (e_isi (by rfl) T.b_isinstance (a_cons (e_pv 6 (pv 6)) (a_cons (e_bty (n := "list") (by rfl) T.b_list (by decide +kernel)) a_nil))))) (k_or1 (t_ne hr (e_pv 6 (pv 6)) (e_call DLheld hr (by rfl) (a_cons (e_pv 2 (pv 2)) (a_cons (e_pv 4 (pv 4)) a_nil)))))))
      (b_one (s_ret e_bl))
      b_nil)
      (b_cons (s_if (t_w (k_or (t_lt (e_maxL rfl (by rfl) T.b_max (a_cons (e_fzL (e_add (e_fz (e_lst (a_cons e_int a_nil))) (e_pv 6 (pv 6)))) a_nil)) (e_pv 3 (pv 3))) (k_or1 (t_ne hr (e_pv 5 (pv 5)) (e_pv 4 (pv 4))))))
      (b_one (s_ret e_bl))
      b_nil)
      (b_cons (s_for PassesOwn.never rfl (j_l (e_call DLno_orders hr (by rfl) (a_cons (e_pv 0 (pv 0)) (a_cons (e_pv 2 (pv 2)) (a_cons (e_pv 4 (pv 4)) a_nil))))) (g_nm (pg_name (i := 7) scLright.nd rfl (by first | exact Or.inl rfl | exact Or.inr rfl)))
      (b_one (s_if (t_notN (e_call Dheld_by hr (by rfl) (a_cons (e_pv 1 (pv 1)) (a_cons (e_pv 7 (pv 7)) a_nil))) e_non)
      (b_one (s_ret e_bl))
      b_nil)))
      (b_cons (s_expr (e_app (e_pv 6 (pv 6)) (a_cons e_int a_nil)))
      (b_one (s_ret (e_eq hr (e_call Dheld_by hr (by rfl) (a_cons (e_pv 1 (pv 1)) (a_cons (e_pv 5 (pv 5)) a_nil))) (e_call DLheld hr (by rfl) (a_cons (e_pv 2 (pv 2)) (a_cons (e_pv 4 (pv 4)) a_nil))))))))))))), ?_⟩)
  rintro ds μ Q E ⟨s, p, ss, rfl, hS, nps, hp, hn, hd, q⟩
  have hl := rows_len hd
  walk_at "y"
  refine ⟨s, p, ss, rfl, hS, nps, hp, by omega, fun l o μ1 hg w1 no1 eo => ?_⟩
  have nos := hS.ne no1
  have hp1 := w1.2 p _ nps hp
  have hlow := low_bound ss hg.ok hg.perm
  have hmx := hN_mx (own := ownL (rowsS ss)) l []
  have hpl := (hN_len (ownL (rowsS ss)) l []).trans hg.len
  have hw1 : ∀ {f μ'}, Sub μ1 μ' → μ1 f = none → TkW s μ μ' := fun {f μ'} u h => ⟨by obtain ⟨a, b, c, e⟩ := w1.1; exact ⟨a, b, c, u _ _ e⟩, fun b m hb e => u b m (w1.2 b m hb e)⟩
  walk_at "y"
  refine ⟨ss, _, rfl, hn, hd, .inl ⟨l, rfl, hg, fun f μ2 nf u2 ef => ?_⟩⟩
  have nf0 : μ f = none := w1.noM nf
  have nfs := hS.ne nf0
  walk_at "y"
  refine ⟨p, _, ss, l, rfl, u2 _ _ hp1, asL_adr (u2 _ _ eo), hg, by omega, fun g μ3 ng u3 eg => ?_⟩
  have ef3 := u3 _ _ ef
  have eo3 := u3 _ _ (u2 _ _ eo)
  have hp3 := u3 _ _ (u2 _ _ hp1)
  have w3 : TkW s μ μ3 := hw1 (fun b m hb => u3 _ _ (u2 _ _ hb)) nf
  walk_at "y"
  refine w_neD (by rw [rsv_adr ef3]; exact shp_natD) (by rw [rsv_adr eg]; exact shp_natD) ?_
  rw [rsv_adr ef3, rsv_adr eg, eqv_natD, decide_eq_true rfl]
  walk_at "y"
  refine w_maxL (ns := 0 :: (hN (ownL (rowsS ss)) [] l).map fun i : Nat => (i : Int)) (by rw [natD_ints]; rfl) (Nat.succ_pos _) fun m hm hx => ?_
  have hm2 : ((pk 0 ((fallT ss).map fun t => need t.1) : Nat) : Int) ≤ m := by
    rcases hmx.2 with h | h
    · have := hx 0 List.mem_cons_self
      omega
    · have := hx _ (List.mem_cons_of_mem _ (List.mem_map.mpr ⟨_, h, rfl⟩))
      omega
  walk_at "y"
  refine w_neD shp_natD (by rw [rsv_adr eo3]; exact shp_natD) ?_
  rw [rsv_adr eo3, show PyData.eqv (rsv μ3 (.lst (natD l))).py (D.lst (natD l)).py = true by show PyData.eqv (D.lst (natD l)).py (D.lst (natD l)).py = true; rw [eqv_natD, decide_eq_true rfl]]
  walk_at "y"
  refine ⟨s, p, o, ss, l, rfl, w3.1, nps, nos, hp3, eo3, hg, by omega, fun b q0 ds μ4 nb w4 eb eq0 hbad => ?_⟩
  have eo4 := w4.2 o _ nos eo3
  have ef4 := w4.2 f _ nfs ef3
  have hp4 := w4.2 p _ nps hp3
  have nfo : o ≠ f := fun z => by rw [z] at eo; rw [nf] at eo; cases eo
  have nfp : p ≠ f := fun z => by rw [z, nf] at hp1; cases hp1
  walk_at "y"
  refine Y.Cl.same (w_turnsC (asL_adr eb) (fun d hd2 N hNx => ?_) ?_)
  · obtain ⟨t1, t2⟩ := bad_ok eo4 eq0 (hbad d hd2)
    walk_at "y"
    refine ⟨ss, _, rfl, hn, hd, .inr ⟨t1, t2, ?_⟩⟩
    walk_at "y"
    exact Y.Cl.at (by walk_at "less") Sub.refl hNx
  · have hfl : (natD (hN (ownL (rowsS ss)) [] l)).length ≤ 1000 := by rw [natD_len, hN_len, hg.len]; omega
    walk_at "y"
    refine ⟨ss, _, rfl, hn, hd, .inl ⟨l, rfl, hg, fun f2 μ5 nf2 u5 ef5 => ?_⟩⟩
    have hp5 := u5 p _ (by rw [mup_ne nfp]; exact hp4)
    have eo5 := u5 o _ (by rw [mup_ne nfo]; exact eo4)
    walk_at "y"
    refine ⟨p, _, ss, l, rfl, hp5, asL_adr eo5, hg, by omega, fun g2 μ6 ng2 u6 eg6 => ?_⟩
    have ef6 := u6 _ _ ef5
    walk_at "y"
    refine w_eqD (by rw [rsv_adr ef6]; exact shp_natD) (by rw [rsv_adr eg6]; exact shp_natD) ?_
    rw [rsv_adr ef6, rsv_adr eg6, eqv_natD, decide_eq_true rfl]
    walk_at "y"
    exact RtC.same (q _ ((((w3.all w4).set nf0 nfs).sub u5).sub u6))
/-! ### law -/
abbrev splaw : Sp2 := spLaw
theorem Dlaw (T : Tt K mg cc) : Df P w K mg base "law" 10 ["_law_script"] (splaw) := by
  have Dneeds_of_sets := Dneeds_of_sets (P := P) (w := w) (base := base) T
  have DLcell := DLcell (P := P) (w := w) (base := base) T
  have DLstream := DLstream (P := P) (w := w) (base := base) T
  have DLsets := DLsets (P := P) (w := w) (base := base) T
  have DLparts := DLparts (P := P) (w := w) (base := base) T
  have DLright := DLright (P := P) (w := w) (base := base) T
  refine T.xlaw.ok sclaw (by rintro ds μ Q E ⟨ns, rfl, hl, q⟩ <;> rfl) (fun f cdv A outer s H E hr => ⟨_, _, (b_cons (s_for PassesOwn.never rfl (j_r1 (by rfl) T.b_range (a_cons (e_max2 (by rfl) T.b_max (a_cons e_int (a_cons (e_min2 (by rfl) T.b_min (a_cons (e_len (by rfl) T.b_len (a_cons (e_pv 0 (pv 0)) a_nil)) (a_cons e_int a_nil))) a_nil))) a_nil)) (g_nm (pg_name (i := 1) sclaw.nd rfl (by first | exact Or.inl rfl | exact Or.inr rfl)))
      (b_cons (s_set (i := 2) (e_call DLstream hr (by rfl) (a_cons (e_call DLcell hr (by rfl) (a_cons (e_pv 0 (pv 0)) (a_cons (e_pv 1 (pv 1)) a_nil))) a_nil)) sclaw.nd rfl (by first | exact Or.inl rfl | exact Or.inr rfl))
      (b_cons (s_set (i := 3) (e_call DLsets hr (by rfl) (a_cons (e_pv 2 (pv 2)) a_nil)) sclaw.nd rfl (by first | exact Or.inl rfl | exact Or.inr rfl))
      (b_cons (s_asg (e_call DLparts hr (by rfl) (a_cons (e_pv 3 (pv 3)) a_nil)) (g_un (n := 2) rfl (gs_cons (g_nm (pg_name (i := 4) sclaw.nd rfl (by first | exact Or.inl rfl | exact Or.inr rfl))) (gs_cons (g_nm (pg_name (i := 5) sclaw.nd rfl (by first | exact Or.inl rfl | exact Or.inr rfl))) gs_nil))))
      (b_one (s_for PassesOwn.never rfl (j_r1 (by rfl) T.b_range (a_cons e_int a_nil)) (g_nm (pg_name (i := 6) sclaw.nd rfl (by first | exact Or.inl rfl | exact Or.inr rfl)))
      (b_one (s_if (t_not (t_val (e_call DLright hr (by rfl) (a_cons (e_pv 2 (pv 2)) (a_cons (e_pv 3 (pv 3)) (a_cons (e_pv 4 (pv 4)) (a_cons (e_call Dneeds_of_sets hr (by rfl) (a_cons (e_pv 3 (pv 3)) a_nil)) a_nil)))))))
      (b_one (s_ret e_bl))
      b_nil))))))))
      (b_one (s_ret e_bl))), ?_⟩)
  rintro ds μ Q E ⟨ns, rfl, hl, q⟩
  walk_at "y"
  refine Y.Cl.at (ρ' := start2 nlaw [.scr ns]) (by walk_at "less") Sub.refl (w_turnsM (fun ρ μ' => ρ = start2 nlaw [.scr ns]) (fun _ _ _ => trivial) ?_ ?_ _ _ rfl)
  · rintro d hd _ μ1 rfl N hN
    obtain ⟨k, hk, rfl⟩ := rng_mem0 hd
    walk_at "y"
    refine ⟨ns, _, rfl, by omega, by omega, fun c => ?_⟩
    walk_at "y"
    refine ⟨c, rfl, fun st μ2 hst hS hμ2 => ?_⟩
    walk_at "y"
    refine ⟨st, rfl, hS, fun ss μ3 l3 d3 t3 => ?_⟩
    walk_at "y"
    refine ⟨ss, rfl, by omega, d3, fun p1 p2 μ4 h1 h2 h12 u4 e1 e2 => ?_⟩
    rw [rts_rw] at e1
    have hS4 : Strm μ4 st := by obtain ⟨a, b, c, e⟩ := t3.st; exact ⟨a, b, c, u4 _ _ e⟩
    have np : p1 ≠ st := t3.st.ne h1
    walk_at "y"
    refine Y.Cl.at (ρ' := start2 nlaw [.scr ns, .int (k : Int), .adr st, .tup (ss.map ltD), .adr p1]) (by walk_at "less") Sub.refl (w_turnsM (fun ρ μ' => ρ = start2 nlaw [.scr ns, .int (k : Int), .adr st, .tup (ss.map ltD), .adr p1] ∧ TkW st μ4 μ') (fun _ _ _ => trivial) ?_ ?_ _ _ ⟨rfl, TkW.refl hS4⟩)
    · rintro d2 hd2 _ μ5 ⟨rfl, w5⟩ N2 hN2
      walk_at "y"
      refine ⟨ss, rfl, by omega, d3, ?_⟩
      walk_at "y"
      refine ⟨st, p1, ss, rfl, w5.1, np, w5.2 _ _ np e1, by omega, d3, fun μ6 w6 => ?_⟩
      walk_at "y"
      exact Y.Cl.at (by walk_at "less") Sub.refl (hN2 _ _ ⟨rfl, w5.all w6⟩)
    · rintro _ μ5 ⟨rfl, w5⟩
      walk_at "y"
      exact Y.Cl.at (by walk_at "less") Sub.refl (hN _ _ rfl)
  · rintro _ μ' rfl
    walk_at "y"
    exact RtC.same (q _)


end W
namespace W
open PySem PySem.Spec PyProof.Rows L2 Y
def bsL : List Y.Fb := [klB "Parts",
  glB "is_whole",
  glB "is_within",
  meB "Parts" "__init__",
  meB "Parts" "part_in",
  glB "rests_of",
  glB "parts_and_roots",
  glB "parts_of",
  glB "roots_of",
  glB "own_parts",
  glB "is_order",
  glB "held_by",
  glB "needs_of",
  glB "falling",
  glB "needs_of_sets",
  glB "_law_cell",
  glB "_law_stream",
  glB "_law_take",
  glB "_law_e",
  glB "_law_sets",
  glB "_law_part",
  glB "_law_parts",
  glB "_law_own",
  glB "_law_order",
  glB "_law_held",
  glB "_law_no_orders",
  glB "_law_right",
  glB "law",
  frB "bool",
  frB "enumerate",
  frB "int",
  frB "isinstance",
  frB "len",
  frB "list",
  frB "max",
  frB "min",
  frB "range",
  frB "sorted",
  frB "str",
  frB "tuple",
  frB "zip",
  noB "Parts" "rows"]
def fnL : List He.FnD := [fnD ("is_whole", none) "is_whole" "is_whole" sis_whole,
  fnD ("is_within", none) "is_within" "is_within" sis_within,
  fnD ("Parts", some "__init__") "__init__" "Parts.__init__" sParts_init,
  fnD ("Parts", some "part_in") "part_in" "Parts.part_in" sParts_part_in,
  fnD ("rests_of", none) "rests_of" "rests_of" srests_of,
  fnD ("parts_and_roots", none) "parts_and_roots" "parts_and_roots" sparts_and_roots,
  fnD ("parts_of", none) "parts_of" "parts_of" sparts_of,
  fnD ("roots_of", none) "roots_of" "roots_of" sroots_of,
  fnD ("own_parts", none) "own_parts" "own_parts" sown_parts,
  fnD ("is_order", none) "is_order" "is_order" sis_order,
  fnD ("held_by", none) "held_by" "held_by" sheld_by,
  fnD ("needs_of", none) "needs_of" "needs_of" sneeds_of,
  fnD ("falling", none) "falling" "falling" sfalling,
  fnD ("needs_of_sets", none) "needs_of_sets" "needs_of_sets" sneeds_of_sets,
  fnD ("_law_cell", none) "_law_cell" "_law_cell" sLcell,
  fnD ("_law_stream", none) "_law_stream" "_law_stream" sLstream,
  fnD ("_law_take", none) "_law_take" "_law_take" sLtake,
  fnD ("_law_e", none) "_law_e" "_law_e" sLe,
  fnD ("_law_sets", none) "_law_sets" "_law_sets" sLsets,
  fnD ("_law_part", none) "_law_part" "_law_part" sLpart,
  fnD ("_law_parts", none) "_law_parts" "_law_parts" sLparts,
  fnD ("_law_own", none) "_law_own" "_law_own" sLown,
  fnD ("_law_order", none) "_law_order" "_law_order" sLorder,
  fnD ("_law_held", none) "_law_held" "_law_held" sLheld,
  fnD ("_law_no_orders", none) "_law_no_orders" "_law_no_orders" sLno_orders,
  fnD ("_law_right", none) "_law_right" "_law_right" sLright,
  fnD ("law", none) "law" "law" slaw]
def tsL : List He.Tab := []
def nm0 : List PySem.Str := ["is_whole", "is_within", "Parts", "rests_of", "parts_and_roots", "parts_of", "roots_of", "own_parts", "is_order", "held_by", "needs_of", "falling", "needs_of_sets", "_law_cell", "_law_stream", "_law_take", "_law_e", "_law_sets", "_law_part", "_law_parts", "_law_own", "_law_order", "_law_held", "_law_no_orders", "_law_right"]
def names : List PySem.Str := nm0
def ccK (K : PySem.W.Frag) : Nat → Addr := fun i => [He.ga K "Parts"].getD i 0
theorem tt_mk {K : PySem.W.Frag} {h : Heap} {mg : Str → Option Value} {w : World} (X : K.In h) (G : h.Ns mainGlobals mg) (c : SaysY bsL fnL tsL w K) : Tt K mg (ccK K) := {
  k_Parts := kl_mk X G (c.b 0 rfl),
  xis_whole := tx_mk X G (c.df 0 rfl) (c.b 1 rfl) fun fd F => F.binds fun _ _ _ _ _ _ us hl => match us, hl with | [_], _ => (by kernel_rfl),
  xis_within := tx_mk X G (c.df 1 rfl) (c.b 2 rfl) fun fd F => F.binds fun _ _ _ _ _ _ us hl => match us, hl with | [_, _, _], _ => (by kernel_rfl),
  xParts_init := tm_mk (c.df 2 rfl) (c.b 3 rfl) fun fd F => F.binds fun _ _ _ _ _ _ us hl => match us, hl with | [_], _ => (by kernel_rfl),
  xParts_part_in := tm_mk (c.df 3 rfl) (c.b 4 rfl) fun fd F => F.binds fun _ _ _ _ _ _ us hl => match us, hl with | [_, _], _ => (by kernel_rfl),
  xrests_of := tx_mk X G (c.df 4 rfl) (c.b 5 rfl) fun fd F => F.binds fun _ _ _ _ _ _ us hl => match us, hl with | [_], _ => (by kernel_rfl),
  xparts_and_roots := tx_mk X G (c.df 5 rfl) (c.b 6 rfl) fun fd F => F.binds fun _ _ _ _ _ _ us hl => match us, hl with | [_], _ => (by kernel_rfl),
  xparts_of := tx_mk X G (c.df 6 rfl) (c.b 7 rfl) fun fd F => F.binds fun _ _ _ _ _ _ us hl => match us, hl with | [_], _ => (by kernel_rfl),
  xroots_of := tx_mk X G (c.df 7 rfl) (c.b 8 rfl) fun fd F => F.binds fun _ _ _ _ _ _ us hl => match us, hl with | [_], _ => (by kernel_rfl),
  xown_parts := tx_mk X G (c.df 8 rfl) (c.b 9 rfl) fun fd F => F.binds fun _ _ _ _ _ _ us hl => match us, hl with | [_], _ => (by kernel_rfl),
  xis_order := tx_mk X G (c.df 9 rfl) (c.b 10 rfl) fun fd F => F.binds fun _ _ _ _ _ _ us hl => match us, hl with | [_, _], _ => (by kernel_rfl),
  xheld_by := tx_mk X G (c.df 10 rfl) (c.b 11 rfl) fun fd F => F.binds fun _ _ _ _ _ _ us hl => match us, hl with | [_, _], _ => (by kernel_rfl),
  xneeds_of := tx_mk X G (c.df 11 rfl) (c.b 12 rfl) fun fd F => F.binds fun _ _ _ _ _ _ us hl => match us, hl with | [_], _ => (by kernel_rfl),
  xfalling := tx_mk X G (c.df 12 rfl) (c.b 13 rfl) fun fd F => F.binds fun _ _ _ _ _ _ us hl => match us, hl with | [_], _ => (by kernel_rfl),
  xneeds_of_sets := tx_mk X G (c.df 13 rfl) (c.b 14 rfl) fun fd F => F.binds fun _ _ _ _ _ _ us hl => match us, hl with | [_], _ => (by kernel_rfl),
  xLcell := tx_mk X G (c.df 14 rfl) (c.b 15 rfl) fun fd F => F.binds fun _ _ _ _ _ _ us hl => match us, hl with | [_, _], _ => (by kernel_rfl),
  xLstream := tx_mk X G (c.df 15 rfl) (c.b 16 rfl) fun fd F => F.binds fun _ _ _ _ _ _ us hl => match us, hl with | [_], _ => (by kernel_rfl),
  xLtake := tx_mk X G (c.df 16 rfl) (c.b 17 rfl) fun fd F => F.binds fun _ _ _ _ _ _ us hl => match us, hl with | [_, _], _ => (by kernel_rfl),
  xLe := tx_mk X G (c.df 17 rfl) (c.b 18 rfl) fun fd F => F.binds fun _ _ _ _ _ _ us hl => match us, hl with | [_, _], _ => (by kernel_rfl),
  xLsets := tx_mk X G (c.df 18 rfl) (c.b 19 rfl) fun fd F => F.binds fun _ _ _ _ _ _ us hl => match us, hl with | [_], _ => (by kernel_rfl),
  xLpart := tx_mk X G (c.df 19 rfl) (c.b 20 rfl) fun fd F => F.binds fun _ _ _ _ _ _ us hl => match us, hl with | [_, _], _ => (by kernel_rfl),
  xLparts := tx_mk X G (c.df 20 rfl) (c.b 21 rfl) fun fd F => F.binds fun _ _ _ _ _ _ us hl => match us, hl with | [_], _ => (by kernel_rfl),
  xLown := tx_mk X G (c.df 21 rfl) (c.b 22 rfl) fun fd F => F.binds fun _ _ _ _ _ _ us hl => match us, hl with | [_], _ => (by kernel_rfl),
  xLorder := tx_mk X G (c.df 22 rfl) (c.b 23 rfl) fun fd F => F.binds fun _ _ _ _ _ _ us hl => match us, hl with | [_, _], _ => (by kernel_rfl),
  xLheld := tx_mk X G (c.df 23 rfl) (c.b 24 rfl) fun fd F => F.binds fun _ _ _ _ _ _ us hl => match us, hl with | [_, _], _ => (by kernel_rfl),
  xLno_orders := tx_mk X G (c.df 24 rfl) (c.b 25 rfl) fun fd F => F.binds fun _ _ _ _ _ _ us hl => match us, hl with | [_, _, _], _ => (by kernel_rfl),
  xLright := tx_mk X G (c.df 25 rfl) (c.b 26 rfl) fun fd F => F.binds fun _ _ _ _ _ _ us hl => match us, hl with | [_, _, _, _], _ => (by kernel_rfl),
  xlaw := tx_mk X G (c.df 26 rfl) (c.b 27 rfl) fun fd F => F.binds fun _ _ _ _ _ _ us hl => match us, hl with | [_], _ => (by kernel_rfl),
  b_bool := fr_mg X G (c.b 28 rfl),
  b_enumerate := fr_mg X G (c.b 29 rfl),
  b_int := fr_mg X G (c.b 30 rfl),
  b_isinstance := fr_mg X G (c.b 31 rfl),
  b_len := fr_mg X G (c.b 32 rfl),
  b_list := fr_mg X G (c.b 33 rfl),
  b_max := fr_mg X G (c.b 34 rfl),
  b_min := fr_mg X G (c.b 35 rfl),
  b_range := fr_mg X G (c.b 36 rfl),
  b_sorted := fr_mg X G (c.b 37 rfl),
  b_str := fr_mg X G (c.b 38 rfl),
  b_tuple := fr_mg X G (c.b 39 rfl),
  b_zip := fr_mg X G (c.b 40 rfl),
  n_Parts_rows := no_mk (c.b 41 rfl) }
theorem law_mk {l : PySem.W.OpenLaw} {w : World} {K : PySem.W.Frag} {mg : Str → Option Value} {fa : Addr} {cc : Nat → Addr} (T : Tt K mg cc) (hfa : mg "law" = some (.ref fa)) :
    ∃ fd : FuncData, (∀ (s : Shared) (v : Value), BindsTo s fd ⟨[v], []⟩ [("_law_script", v)]) ∧ ∀ base : Heap, K.In base → base.Ns mainGlobals mg → FnOk l.prog w K mg base CX0 10 fa fd ["_law_script"] (toSp K spLaw) := by
  obtain ⟨f, fd, F, hm, hb⟩ := T.xlaw.of
  cases hfa.symm.trans hm
  obtain ⟨oc, od, kV, doc, pm, an, cdv, ct, osl, rfl, lk, hcd⟩ := F.ex
  refine ⟨PySem.W.fnOf "law" "law" (defArgs slaw) (defBody slaw) (defScope slaw) .none kV doc pm an cdv ct, fun s v => .of_eq rfl, fun base _ _ => ?_⟩
  obtain ⟨f2, fd2, G, hm2, hk2, hb2, oc2, od2, osl2, lk2⟩ := (Dlaw (P := l.prog) (w := w) (base := base) T).of
  cases hm.symm.trans hm2
  exact fn_same G lk2 lk
abbrev R : PySem.W.OpenRow := PySem.W.OpenLaw.row PySem.Challenge.rw_rowsbeneath_k30_whole_every_order_holds
abbrev hk : PySem.W.Hook := Y.hookY 4 bsL fnL tsL
def ob (s : PySem.W.SharedT) : Y.AlY := Y.obsYG 4 bsL fnL tsL (HandSHeadRun.getT s)
theorem ob_eq (s : PySem.W.SharedT) : ob s = hk.obs s.abs := Y.obsYG_eq (HandSHeadRun.getT_eq s)
theorem runF (w : World) : HandSHeadRun.RunEq R (PySem.W.view R.prog [28]) hk ob 40000 names (w.withFollow "special-get-raises" false) := by
  intro os
  kernel_rfl
theorem runT (w : World) : HandSHeadRun.RunEq R (PySem.W.view R.prog [28]) hk ob 40000 names (w.withFollow "special-get-raises" true) := by
  intro os
  kernel_rfl
theorem run (w : World) : HandSHeadRun.RunEq R (PySem.W.view R.prog [28]) hk ob 40000 names w := Y.run_by (P := fun w => HandSHeadRun.RunEq R (PySem.W.view R.prog [28]) hk ob 40000 names w) "special-get-raises" runF runT w
end W
open PySem PySem.W PyProof.Rows
set_option maxHeartbeats 0 in
theorem PySem.Challenge.cw_rowsbeneath_k30_whole_every_order_holds_holds : PySem.Challenge.rw_rowsbeneath_k30_whole_every_order_holds.Holds := by
  w_on; o_law
  refine HandSHeadRun.head_any (r := OpenLaw.row PySem.Challenge.rw_rowsbeneath_k30_whole_every_order_holds) (q := view (OpenLaw.row PySem.Challenge.rw_rowsbeneath_k30_whole_every_order_holds).prog [28]) (H := W.hk) (ob := W.ob) (M := 40000) (loose := W.names) (d := HandSHeadRun.topDef (OpenLaw.row PySem.Challenge.rw_rowsbeneath_k30_whole_every_order_holds).prog 28) (kwd := []) W.ob_eq
    (by kernel_rfl) (fun s => by kernel_rfl) W.run (by kernel_rfl) (by kernel_rfl) (by kernel_rfl) (by rfl) (by first | assumption | decide +kernel) (by decide +kernel) ⟨rfl, rfl, rfl, rfl, rfl, by decide +kernel⟩ ?hw ?hc
  case hw => w_witness2
  case hc =>
    refine L2.walk_ofE (l := PySem.Challenge.rw_rowsbeneath_k30_whole_every_order_holds) (n := 63) (k := 10) (x := "_law_script") (CX := L2.CX0) rfl (by decide) (by kernel_rfl) ⟨rfl, by decide, by decide⟩ ?F (fun _ _ _ _ z => z)
    intro w mg fa h Yh G hmg0
    obtain ⟨K, KX, c⟩ := Yh
    have hmg : mg ("law" : PySem.Str) = some (.ref fa) := by
      have e : (HandSHeadRun.topDef (OpenLaw.row PySem.Challenge.rw_rowsbeneath_k30_whole_every_order_holds).prog 28).name = ("law" : PySem.Str) := by kernel_rfl
      rw [← e]
      exact hmg0
    obtain ⟨fd, hb, hF⟩ := W.law_mk (l := PySem.Challenge.rw_rowsbeneath_k30_whole_every_order_holds) (w := w) (W.tt_mk KX G c) hmg
    exact ⟨K, fd, Y.toSp K Y.spLaw, KX, hb, fun H a ns hl _ hS => Y.law_in hl hS, hF⟩
