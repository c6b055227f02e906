import PyProof.Rows.All
import Wide.All
import OpenK.AllK
import Wide.FinOn
import HandS.ForMost
import HandS.IsInst
import HandS.Flow
import HandS.Wide
import HandS.TupAny
import HandS.Style
import HandS.NoneIn
import HandS.Zip
import HandS.Rev
import PyProof.ListStr
import PyProof.CollectStr
import HandS.RevTup
import HandS.Codes
import HandS.ReplaceLit
import HandS.ReplaceList
import PyProof.StrLawsReplace
import KE.KIntText
import KE.KxText
import PySem.Challenge.RW_rowsbeneath_k28_parts_and_what_sets_rest
set_option Elab.async false
set_option linter.all false
set_option maxRecDepth 100000
set_option maxHeartbeats 4000000
/-! data in trees (D), what is owned (Mu), a second reading over both -/
namespace Y
open PySem PySem.Spec PyProof.Rows L2

inductive D where
  | non | bl (b : Bool) | int (i : Int) | str (x : Str) | ty (n : String)
  /-- an object that is told elsewhere: owned, a class, or unknown -/
  | adr (a : Addr)
  | tup (ds : List D) | lst (ds : List D)
  /-- an instance that stays -/
  | obj (C : Addr) (ns : List Str) (ds : List D)
  /-- the script -/
  | scr (ns : List Int)
/-- what is owned: it may change -/
inductive MO where
  | lst (ds : List D)
  | dk (kvs : List (Key × D))
  | ins (C : Addr) (fs : List (Str × D))
abbrev Mu := Addr → Option MO
abbrev Env2 := List (Option D)
def mup (μ : Mu) (a : Addr) (m : MO) : Mu := fun b => if b = a then some m else μ b
def mdel (μ : Mu) (a : Addr) : Mu := fun b => if b = a then none else μ b
theorem mup_same {μ : Mu} {a m} : mup μ a m a = some m := by unfold mup; rw [if_pos rfl]
theorem mup_ne {μ : Mu} {a b m} (h : b ≠ a) : mup μ a m b = μ b := by unfold mup; rw [if_neg h]
theorem mdel_same {μ : Mu} {a} : mdel μ a a = none := by unfold mdel; rw [if_pos rfl]
theorem mdel_ne {μ : Mu} {a b} (h : b ≠ a) : mdel μ a b = μ b := by unfold mdel; rw [if_neg h]
theorem mdel_mup {μ : Mu} {a m} (h : μ a = none) : mdel (mup μ a m) a = μ := by
  funext b; unfold mdel mup
  by_cases e : b = a
  · subst e; rw [if_pos rfl, h]
  · rw [if_neg e, if_neg e]
theorem mup_mup {μ : Mu} {a m n} : mup (mup μ a m) a n = mup μ a n := by
  funext b; unfold mup; split <;> rfl

mutual
def Rp (K : PySem.W.Frag) (I : Hp) : D → V → Prop
  | .non, v => v = .non
  | .bl b, v => v = .bl b
  | .int i, v => v = .int i
  | .str x, v => v = .str x
  | .ty n, v => v = .ty n
  | .adr a, v => v = .ref a
  | .tup ds, v => ∃ a vs, v = .ref a ∧ SqT K I a vs ∧ RpA K I ds vs
  | .lst ds, v => ∃ a vs, v = .ref a ∧ I a = some (.lst vs) ∧ RpA K I ds vs
  | .obj C ns ds, v => ∃ a dx vs, v = .ref a ∧ I a = some (.ins C dx (ns.zip vs)) ∧ ns.length = ds.length ∧ RpA K I ds vs
  | .scr ns, v => ∃ a, v = .ref a ∧ SqL K I a (ns.map V.int)
def RpA (K : PySem.W.Frag) (I : Hp) : List D → List V → Prop
  | [], vs => vs = []
  | d :: ds, vs => ∃ v r, vs = v :: r ∧ Rp K I d v ∧ RpA K I ds r
end
def RpK (K : PySem.W.Frag) (I : Hp) : List (Key × D) → List (Key × V) → Prop := Paired fun p q => p.1 = q.1 ∧ Rp K I p.2 q.2
def RpF (K : PySem.W.Frag) (I : Hp) : List (Str × D) → List (Str × V) → Prop := Paired fun p q => p.1 = q.1 ∧ Rp K I p.2 q.2
def RpO (K : PySem.W.Frag) (I : Hp) : MO → HO → Prop
  | .lst ds, o => ∃ vs, o = .lst vs ∧ RpA K I ds vs
  | .dk kvs, o => ∃ hvs, o = .dK hvs ∧ RpK K I kvs hvs
  | .ins C fs, o => ∃ dx hfs, o = .ins C dx hfs ∧ RpF K I fs hfs

def Exx (H H' : Hp) : Prop := ∀ a o, H a = some o → H' a = some o
theorem Exx.refl (H : Hp) : Exx H H := fun _ _ h => h
theorem Exx.trans {H H1 H2 : Hp} (a : Exx H H1) (b : Exx H1 H2) : Exx H H2 := fun x o h => b x o (a x o h)
theorem Exx.rd {H H' : Hp} {a : Addr} {u : HO} (e : Exx H H') (h : Rd H a u) : Rd H' a u := by
  rcases h with h | ⟨o, h⟩
  · exact .inl (e a _ h)
  · exact .inr ⟨o, e a _ h⟩
theorem Exx.sqt {K : PySem.W.Frag} {H H' : Hp} {a : Addr} {xs : List V} (e : Exx H H') (h : SqT K H a xs) : SqT K H' a xs := by
  rcases h with h | h
  · exact .inl (e.rd h)
  · exact .inr h
theorem Exx.sql {K : PySem.W.Frag} {H H' : Hp} {a : Addr} {xs : List V} (e : Exx H H') (h : SqL K H a xs) : SqL K H' a xs := by
  rcases h with h | h
  · exact .inl (e.rd h)
  · exact .inr h
theorem Exx.new {H : Hp} {p : Addr} {o : HO} (h : H p = none) : Exx H (upd H p o) := fun a u e => by
  rw [upd_ne (ne_of_none e h)]; exact e
section
variable {K : PySem.W.Frag} {I I' : Hp}
mutual
theorem Rp.mono (e : Exx I I') : ∀ {d : D} {v : V}, Rp K I d v → Rp K I' d v
  | .non, _, h => h
  | .bl _, _, h => h
  | .int _, _, h => h
  | .str _, _, h => h
  | .ty _, _, h => h
  | .adr _, _, h => h
  | .tup ds, _, h => by
    obtain ⟨a, vs, h1, h2, h3⟩ := h
    exact ⟨a, vs, h1, e.sqt h2, RpA.mono e h3⟩
  | .lst ds, _, h => by
    obtain ⟨a, vs, h1, h2, h3⟩ := h
    exact ⟨a, vs, h1, e _ _ h2, RpA.mono e h3⟩
  | .obj C ns ds, _, h => by
    obtain ⟨a, dx, vs, h1, h2, h4, h3⟩ := h
    exact ⟨a, dx, vs, h1, e _ _ h2, h4, RpA.mono e h3⟩
  | .scr ns, _, h => by
    obtain ⟨a, h1, h2⟩ := h
    exact ⟨a, h1, e.sql h2⟩
theorem RpA.mono (e : Exx I I') : ∀ {ds : List D} {vs : List V}, RpA K I ds vs → RpA K I' ds vs
  | [], _, h => h
  | d :: ds, _, h => by
    obtain ⟨v, r, h1, h2, h3⟩ := h
    exact ⟨v, r, h1, Rp.mono e h2, RpA.mono e h3⟩
end
theorem RpK.mono (e : Exx I I') {kvs : List (Key × D)} {hvs : List (Key × V)} (h : RpK K I kvs hvs) : RpK K I' kvs hvs := Paired.mapP h fun _ _ q => ⟨q.1, Rp.mono e q.2⟩
theorem RpF.mono (e : Exx I I') {kvs : List (Str × D)} {hvs : List (Str × V)} (h : RpF K I kvs hvs) : RpF K I' kvs hvs := Paired.mapP h fun _ _ q => ⟨q.1, Rp.mono e q.2⟩
theorem RpO.mono (e : Exx I I') {m : MO} {o : HO} (h : RpO K I m o) : RpO K I' m o := by
  cases m with
  | lst ds => obtain ⟨vs, h1, h2⟩ := h; exact ⟨vs, h1, RpA.mono e h2⟩
  | dk kvs => obtain ⟨vs, h1, h2⟩ := h; exact ⟨vs, h1, RpK.mono e h2⟩
  | ins C fs => obtain ⟨dx, vs, h1, h2⟩ := h; exact ⟨dx, vs, h1, RpF.mono e h2⟩
theorem RpA.length : ∀ {ds : List D} {vs : List V}, RpA K I ds vs → vs.length = ds.length
  | [], _, h => by cases h; rfl
  | d :: ds, _, h => by
    obtain ⟨v, r, rfl, _, h3⟩ := h
    show r.length + 1 = ds.length + 1
    rw [RpA.length h3]
theorem RpA.get : ∀ {ds : List D} {vs : List V} {i : Nat} {d : D}, RpA K I ds vs → ds[i]? = some d → ∃ v, vs[i]? = some v ∧ Rp K I d v
  | [], _, _, _, _, e => by simp at e
  | d :: ds, _, 0, _, h, e => by
    obtain ⟨v, r, rfl, h2, _⟩ := h
    simp at e; subst e
    exact ⟨v, rfl, h2⟩
  | d :: ds, _, i + 1, d', h, e => by
    obtain ⟨v, r, rfl, _, h3⟩ := h
    obtain ⟨v', e1, e2⟩ := RpA.get (i := i) (d := d') h3 (by simpa using e)
    exact ⟨v', by simpa using e1, e2⟩
theorem RpA.append : ∀ {ds es : List D} {vs us : List V}, RpA K I ds vs → RpA K I es us → RpA K I (ds ++ es) (vs ++ us)
  | [], _, _, _, h, g => by cases h; exact g
  | d :: ds, _, _, _, h, g => by
    obtain ⟨v, r, rfl, h2, h3⟩ := h
    exact ⟨v, _, rfl, h2, RpA.append h3 g⟩
theorem RpA.one {d : D} {v : V} (h : Rp K I d v) : RpA K I [d] [v] := ⟨v, [], rfl, h, rfl⟩
theorem RpA.cons {d : D} {v : V} {ds : List D} {vs : List V} (h : Rp K I d v) (h' : RpA K I ds vs) : RpA K I (d :: ds) (v :: vs) := ⟨v, vs, rfl, h, h'⟩
theorem RpA.take : ∀ {ds : List D} {vs : List V} (n : Nat), RpA K I ds vs → RpA K I (ds.take n) (vs.take n)
  | _, _, 0, _ => by simp [RpA]
  | [], _, _ + 1, h => by cases h; simp [RpA]
  | d :: ds, _, n + 1, h => by
    obtain ⟨v, r, rfl, h2, h3⟩ := h
    exact ⟨v, _, rfl, h2, RpA.take n h3⟩
theorem RpA.drop : ∀ {ds : List D} {vs : List V} (n : Nat), RpA K I ds vs → RpA K I (ds.drop n) (vs.drop n)
  | _, _, 0, h => h
  | [], _, _ + 1, h => by cases h; simp [RpA]
  | d :: ds, _, n + 1, h => by
    obtain ⟨v, r, rfl, h2, h3⟩ := h
    exact RpA.drop n h3
theorem RpA.set : ∀ {ds : List D} {vs : List V} {d : D} {v : V} (n : Nat), RpA K I ds vs → Rp K I d v → RpA K I (ds.set n d) (vs.set n v)
  | [], _, _, _, _, h, _ => by cases h; simp [RpA]
  | d :: ds, _, _, _, 0, h, g => by
    obtain ⟨v, r, rfl, h2, h3⟩ := h
    exact ⟨_, _, rfl, g, h3⟩
  | d :: ds, _, _, _, n + 1, h, g => by
    obtain ⟨v, r, rfl, h2, h3⟩ := h
    exact ⟨_, _, rfl, h2, RpA.set n h3 g⟩
theorem RpA.reverse : ∀ {ds : List D} {vs : List V}, RpA K I ds vs → RpA K I ds.reverse vs.reverse
  | [], _, h => by cases h; simp [RpA]
  | d :: ds, _, h => by
    obtain ⟨v, r, rfl, h2, h3⟩ := h
    rw [List.reverse_cons, List.reverse_cons]
    exact RpA.append (RpA.reverse h3) (RpA.one h2)
theorem RpA.ints : ∀ (ns : List Int), RpA K I (ns.map D.int) (ns.map V.int)
  | [] => rfl
  | _ :: ns => ⟨_, _, rfl, rfl, RpA.ints ns⟩
theorem RpA.ints_inv : ∀ {ns : List Int} {vs : List V}, RpA K I (ns.map D.int) vs → vs = ns.map V.int
  | [], _, h => h
  | _ :: ns, _, h => by
    obtain ⟨v, r, rfl, h2, h3⟩ := h
    have e : v = _ := h2
    rw [e, RpA.ints_inv h3]; rfl
theorem RpA.strs : ∀ (ns : List Str), RpA K I (ns.map D.str) (ns.map V.str)
  | [] => rfl
  | _ :: ns => ⟨_, _, rfl, rfl, RpA.strs ns⟩
theorem RpA.strs_inv : ∀ {ns : List Str} {vs : List V}, RpA K I (ns.map D.str) vs → vs = ns.map V.str
  | [], _, h => h
  | _ :: ns, _, h => by
    obtain ⟨v, r, rfl, h2, h3⟩ := h
    have e : v = _ := h2
    rw [e, RpA.strs_inv h3]; rfl
theorem RpA.bls_inv : ∀ {ns : List Bool} {vs : List V}, RpA K I (ns.map D.bl) vs → vs = ns.map V.bl
  | [], _, h => h
  | _ :: ns, _, h => by
    obtain ⟨v, r, rfl, h2, h3⟩ := h
    have e : v = _ := h2
    rw [e, RpA.bls_inv h3]; rfl
end

/-- what is known of the heap: I stays, μ is owned -/
structure At (K : PySem.W.Frag) (μ : Mu) (I H : Hp) : Prop where
  sub : ∀ a o, I a = some o → H a = some o
  own : ∀ a m, μ a = some m → I a = none ∧ ∃ o, H a = some o ∧ RpO K I m o
/-- what a piece of code leaves -/
structure Kp (I : Hp) (μ : Mu) (H I' : Hp) (μ' : Mu) (H' : Hp) : Prop where
  ex : Exx I I'
  fr : ∀ a o, H a = some o → I a = none → μ a = none → H' a = some o ∧ I' a = none ∧ μ' a = none
def Slots (K : PySem.W.Frag) (I : Hp) (ρ : Env2) (σ : L2.St) : Prop :=
  ρ.length = σ.length ∧ ∀ (i : Nat) (d : D), ρ[i]? = some (some d) → ∃ v, σ[i]? = some (some v) ∧ Rp K I d v
section
variable {K : PySem.W.Frag} {I I' I1 I2 H H' H1 H2 : Hp} {μ μ' μ1 μ2 : Mu} {ρ : Env2} {σ : L2.St}
theorem Kp.refl : Kp I μ H I μ H := ⟨Exx.refl _, fun _ _ a b c => ⟨a, b, c⟩⟩
theorem Kp.trans (a : Kp I μ H I1 μ1 H1) (b : Kp I1 μ1 H1 I2 μ2 H2) : Kp I μ H I2 μ2 H2 :=
  ⟨a.ex.trans b.ex, fun x o h1 h2 h3 => let ⟨p, q, r⟩ := a.fr x o h1 h2 h3; b.fr x o p q r⟩
theorem Slots.mono (e : Exx I I') (h : Slots K I ρ σ) : Slots K I' ρ σ := ⟨h.1, fun i d q => let ⟨v, a, b⟩ := h.2 i d q; ⟨v, a, b.mono e⟩⟩
theorem Slots.set {d : D} {v : V} (i : Nat) (h : Slots K I ρ σ) (r : Rp K I d v) : Slots K I (ρ.set i (some d)) (σ.set i (some v)) := by
  refine ⟨by rw [List.length_set, List.length_set]; exact h.1, fun j e q => ?_⟩
  by_cases hj : i = j
  · subst hj
    by_cases hl : i < ρ.length
    · rw [List.getElem?_set_self hl] at q
      cases q
      exact ⟨v, List.getElem?_set_self (by rw [← h.1]; exact hl), r⟩
    · rw [List.getElem?_eq_none_iff.mpr (by rw [List.length_set]; omega)] at q
      cases q
  · rw [List.getElem?_set_ne hj] at q ⊢
    exact h.2 j e q
/-- a new object that stays -/
theorem At.laid {p : Addr} {o : HO} (a : At K μ I H) (hp : H p = none) : At K μ (upd I p o) (upd H p o) := by
  have hI : I p = none := by
    cases q : I p with
    | none => rfl
    | some u => rw [a.sub p u q] at hp; cases hp
  refine ⟨fun b u e => ?_, fun b m e => ?_⟩
  · by_cases hb : b = p
    · subst hb; rw [upd_same] at e ⊢; exact e
    · rw [upd_ne hb] at e ⊢; exact a.sub b u e
  · obtain ⟨h1, u, h2, h3⟩ := a.own b m e
    have hb : b ≠ p := fun z => by rw [z, hp] at h2; cases h2
    exact ⟨by rw [upd_ne hb]; exact h1, u, by rw [upd_ne hb]; exact h2, h3.mono (Exx.new hI)⟩
theorem At.noI {p : Addr} (a : At K μ I H) (hp : H p = none) : I p = none := by
  cases q : I p with
  | none => rfl
  | some u => rw [a.sub p u q] at hp; cases hp
theorem At.noM {p : Addr} (a : At K μ I H) (hp : H p = none) : μ p = none := by
  cases q : μ p with
  | none => rfl
  | some m => obtain ⟨_, u, e, _⟩ := a.own p m q; rw [hp] at e; cases e
theorem Kp.laid {p : Addr} {o : HO} (hp : H p = none) (hI : I p = none) : Kp I μ H (upd I p o) μ (upd H p o) :=
  ⟨Exx.new hI, fun b u e h1 h2 => by
    have hb : b ≠ p := fun z => by rw [z, hp] at e; cases e
    exact ⟨by rw [upd_ne hb]; exact e, by rw [upd_ne hb]; exact h1, h2⟩⟩
/-- a new object that is owned -/
theorem At.got {p : Addr} {o : HO} {m : MO} (a : At K μ I H) (hp : H p = none) (r : RpO K I m o) : At K (mup μ p m) I (upd H p o) := by
  have hI : I p = none := a.noI hp
  refine ⟨fun b u e => ?_, fun b n e => ?_⟩
  · rw [upd_ne (ne_of_none e hI)]; exact a.sub b u e
  · by_cases hb : b = p
    · subst hb
      rw [mup_same] at e; cases e
      exact ⟨hI, o, upd_same, r⟩
    · rw [mup_ne hb] at e
      obtain ⟨h1, u, h2, h3⟩ := a.own b n e
      exact ⟨h1, u, by rw [upd_ne hb]; exact h2, h3⟩
theorem Kp.got {p : Addr} {o : HO} {m : MO} (hp : H p = none) : Kp I μ H I (mup μ p m) (upd H p o) :=
  ⟨Exx.refl _, fun b u e h1 h2 => by
    have hb : b ≠ p := fun z => by rw [z, hp] at e; cases e
    exact ⟨by rw [upd_ne hb]; exact e, h1, by rw [mup_ne hb]; exact h2⟩⟩
/-- an owned object changed -/
theorem At.put {p : Addr} {o : HO} {m m' : MO} (a : At K μ I H) (hp : μ p = some m') (r : RpO K I m o) : At K (mup μ p m) I (upd H p o) := by
  obtain ⟨hI, _⟩ := a.own p m' hp
  refine ⟨fun b u e => ?_, fun b n e => ?_⟩
  · rw [upd_ne (ne_of_none e hI)]; exact a.sub b u e
  · by_cases hb : b = p
    · subst hb
      rw [mup_same] at e; cases e
      exact ⟨hI, o, upd_same, r⟩
    · rw [mup_ne hb] at e
      obtain ⟨h1, u, h2, h3⟩ := a.own b n e
      exact ⟨h1, u, by rw [upd_ne hb]; exact h2, h3⟩
theorem Kp.put {p : Addr} {o : HO} {m m' : MO} (hp : μ p = some m') : Kp I μ H I (mup μ p m) (upd H p o) :=
  ⟨Exx.refl _, fun b u e h1 h2 => by
    have hb : b ≠ p := fun z => by rw [z, hp] at h2; cases h2
    exact ⟨by rw [upd_ne hb]; exact e, h1, by rw [mup_ne hb]; exact h2⟩⟩
/-- less is owned -/
theorem At.less (a : At K μ I H) (h : ∀ b m, μ' b = some m → μ b = some m) : At K μ' I H := ⟨a.sub, fun b m e => a.own b m (h b m e)⟩
theorem Kp.less (h : ∀ b m, μ' b = some m → μ b = some m) : Kp I μ H I μ' H :=
  ⟨Exx.refl _, fun b o e h1 h2 => ⟨e, h1, by
    cases q : μ' b with
    | none => rfl
    | some m => rw [h b m q] at h2; cases h2⟩⟩
/-- an owned list stays from now on -/
theorem At.frz {p : Addr} {o : HO} {m : MO} (a : At K μ I H) (hp : μ p = some m) (ho : H p = some o) : At K (mdel μ p) (upd I p o) H := by
  obtain ⟨hI, _⟩ := a.own p m hp
  refine ⟨fun b u e => ?_, fun b n e => ?_⟩
  · by_cases hb : b = p
    · subst hb; rw [upd_same] at e; cases e; exact ho
    · rw [upd_ne hb] at e; exact a.sub b u e
  · by_cases hb : b = p
    · subst hb; rw [mdel_same] at e; cases e
    · rw [mdel_ne hb] at e
      obtain ⟨h1, u, h2, h3⟩ := a.own b n e
      exact ⟨by rw [upd_ne hb]; exact h1, u, h2, h3.mono (Exx.new hI)⟩
theorem Kp.frz {p : Addr} {o : HO} {m : MO} (hp : μ p = some m) (hI : I p = none) : Kp I μ H (upd I p o) (mdel μ p) H :=
  ⟨Exx.new hI, fun b u e h1 h2 => by
    have hb : b ≠ p := fun z => by rw [z, hp] at h2; cases h2
    exact ⟨e, by rw [upd_ne hb]; exact h1, by rw [mdel_ne hb]; exact h2⟩⟩
end

/-! ### the second readings -/
abbrev DK := D → Mu → Prop
abbrev TE2 := Env2 → Mu → DK → Prop
abbrev TT2 := Env2 → Mu → (Mu → Prop) → (Mu → Prop) → Prop
abbrev TA2 := Env2 → Mu → (List D → Mu → Prop) → Prop
structure Ends2 where
  nx : Env2 → Mu → Prop
  rt : DK
  bk : Env2 → Mu → Prop := fun _ _ => False
  ct : Env2 → Mu → Prop := fun _ _ => False
abbrev TS2 := Ends2 → Env2 → Mu → Prop
/-- what follows an expression -/
def Go (K : PySem.W.Frag) (I : Hp) (μ : Mu) (H : Hp) (Q2 : DK) (Q : VK) : Prop :=
  ∀ d μ' v I' H', Q2 d μ' → At K μ' I' H' → Kp I μ H I' μ' H' → Rp K I' d v → Q v H'
def GoA (K : PySem.W.Frag) (I : Hp) (μ : Mu) (H : Hp) (Q2 : List D → Mu → Prop) (Q : List V → Hp → Prop) : Prop :=
  ∀ ds μ' vs I' H', Q2 ds μ' → At K μ' I' H' → Kp I μ H I' μ' H' → RpA K I' ds vs → Q vs H'
def GoU (K : PySem.W.Frag) (I : Hp) (μ : Mu) (H : Hp) (Q2 : Mu → Prop) (Q : Hp → Prop) : Prop :=
  ∀ μ' I' H', Q2 μ' → At K μ' I' H' → Kp I μ H I' μ' H' → Q H'
def GoE (K : PySem.W.Frag) (I : Hp) (μ : Mu) (H : Hp) (Q2 : Env2 → Mu → Prop) (Q : L2.St → Hp → Prop) : Prop :=
  ∀ ρ' μ' σ' I' H', Q2 ρ' μ' → At K μ' I' H' → Slots K I' ρ' σ' → Kp I μ H I' μ' H' → Q σ' H'
def RE (K : PySem.W.Frag) (te : TE) (t : TE2) : Prop :=
  ∀ ρ μ Q2, t ρ μ Q2 → ∀ I σ H, At K μ I H → Slots K I ρ σ → ∀ Q : VK, Go K I μ H Q2 Q → te σ H Q
def RT (K : PySem.W.Frag) (tt : TT) (t : TT2) : Prop :=
  ∀ ρ μ T F, t ρ μ T F → ∀ I σ H, At K μ I H → Slots K I ρ σ → ∀ Q : Bool → Hp → Prop, GoU K I μ H T (Q true) → GoU K I μ H F (Q false) → tt σ H Q
def RA (K : PySem.W.Frag) (ta : TA) (t : TA2) : Prop :=
  ∀ ρ μ Q2, t ρ μ Q2 → ∀ I σ H, At K μ I H → Slots K I ρ σ → ∀ Q : List V → Hp → Prop, GoA K I μ H Q2 Q → ta σ H Q
structure GoS (K : PySem.W.Frag) (I : Hp) (μ : Mu) (H : Hp) (D2 : Ends2) (D : Ends) : Prop where
  nx : GoE K I μ H D2.nx D.nx
  rt : Go K I μ H D2.rt D.rt
  bk : GoE K I μ H D2.bk D.bk
  ct : GoE K I μ H D2.ct D.ct
def RS (K : PySem.W.Frag) (ts : TS) (t : TS2) : Prop :=
  ∀ D2 ρ μ, t D2 ρ μ → ∀ I σ H, At K μ I H → Slots K I ρ σ → ∀ D : Ends, GoS K I μ H D2 D → ts D σ H
section
variable {K : PySem.W.Frag} {I I1 H H1 : Hp} {μ μ1 : Mu}
theorem Go.past {Q2 : DK} {Q : VK} (g : Go K I μ H Q2 Q) (k : Kp I μ H I1 μ1 H1) : Go K I1 μ1 H1 Q2 Q := fun d μ' v I' H' q a k' r => g d μ' v I' H' q a (k.trans k') r
theorem GoU.past {Q2 : Mu → Prop} {Q : Hp → Prop} (g : GoU K I μ H Q2 Q) (k : Kp I μ H I1 μ1 H1) : GoU K I1 μ1 H1 Q2 Q := fun μ' I' H' q a k' => g μ' I' H' q a (k.trans k')
theorem GoA.past {Q2 : List D → Mu → Prop} {Q : List V → Hp → Prop} (g : GoA K I μ H Q2 Q) (k : Kp I μ H I1 μ1 H1) : GoA K I1 μ1 H1 Q2 Q := fun d μ' v I' H' q a k' r => g d μ' v I' H' q a (k.trans k') r
theorem GoE.past {Q2 : Env2 → Mu → Prop} {Q : L2.St → Hp → Prop} (g : GoE K I μ H Q2 Q) (k : Kp I μ H I1 μ1 H1) : GoE K I1 μ1 H1 Q2 Q := fun ρ' μ' σ' I' H' q a s k' => g ρ' μ' σ' I' H' q a s (k.trans k')
theorem GoS.past {D2 : Ends2} {D : Ends} (g : GoS K I μ H D2 D) (k : Kp I μ H I1 μ1 H1) : GoS K I1 μ1 H1 D2 D := ⟨g.nx.past k, g.rt.past k, g.bk.past k, g.ct.past k⟩
end

structure PE2 (X : Cx) (e : Expr) (te : TE) (t : TE2) : Prop where
  pe : PE X e te
  re : RE X.K te t
structure PT2 (X : Cx) (e : Expr) (tt : TT) (t : TT2) : Prop where
  pt : PT X e tt
  re : RT X.K tt t
structure PW2 (X : Cx) (e : Expr) (tt : TT) (t : TT2) : Prop where
  pw : PW X e tt
  re : RT X.K tt t
structure PTs2 (X : Cx) (es : List Expr) (tt : TT) (t : TT2) : Prop where
  pt : PTs X es tt
  re : RT X.K tt t
structure PA2 (X : Cx) (es : List Expr) (ta : TA) (t : TA2) : Prop where
  pa : PA X es ta
  re : RA X.K ta t
structure PS2 (X : Cx) (st : Stmt) (ts : TS) (t : TS2) : Prop where
  ps : PS X st ts
  re : RS X.K ts t
structure PSs2 (X : Cx) (st : List Stmt) (ts : TS) (t : TS2) : Prop where
  ps : PSs X st ts
  re : RS X.K ts t
end Y

set_option Elab.async false
set_option linter.all false
set_option maxRecDepth 100000
set_option maxHeartbeats 4000000
namespace Y
open PySem PySem.Spec PyProof.Rows L2
/-- a branch -/
def Br (b : Bool) (T F : Prop) : Prop := (b = true → T) ∧ (b = false → F)
theorem Br.go {b : Bool} {T F T' F' : Prop} (h : Br b T F) (t : T → T') (f : F → F') : Br b T' F' := ⟨fun e => t (h.1 e), fun e => f (h.2 e)⟩
theorem Br.ite {b : Bool} {T F : Prop} (h : Br b T F) : if b = true then T else F := by
  cases b with
  | true => rw [if_pos rfl]; exact h.1 rfl
  | false => rw [if_neg Bool.false_ne_true]; exact h.2 rfl
/-- a list: owned, or one that stays -/
def asL (μ : Mu) : D → Option (List D)
  | .lst ds => some ds
  | .adr a => match μ a with
    | some (.lst ds) => some ds
    | _ => none
  | _ => none
/-- a list or a tuple -/
def asS (μ : Mu) : D → Option (List D)
  | .tup ds => some ds
  | d => asL μ d
section
variable {K : PySem.W.Frag} {I H : Hp} {μ : Mu}
theorem asL_at {d : D} {v : V} {ds : List D} (a : At K μ I H) (r : Rp K I d v) (h : asL μ d = some ds) : ∃ p vs, v = .ref p ∧ H p = some (.lst vs) ∧ RpA K I ds vs := by
  cases d with
  | lst es =>
    cases (show some es = some ds from h)
    obtain ⟨p, vs, e, h1, h2⟩ := r
    exact ⟨p, vs, e, a.sub _ _ h1, h2⟩
  | adr p =>
    cases q : μ p with
    | none => simp [asL, q] at h
    | some m =>
      cases m with
      | lst es =>
        have e : es = ds := by simpa [asL, q] using h
        subst e
        obtain ⟨_, o, ho, vs, rfl, hr⟩ := a.own p _ q
        exact ⟨p, vs, r, ho, hr⟩
      | dk _ => simp [asL, q] at h
      | ins _ _ => simp [asL, q] at h
  | non => cases h
  | bl _ => cases h
  | int _ => cases h
  | str _ => cases h
  | ty _ => cases h
  | tup _ => cases h
  | obj _ _ _ => cases h
  | scr _ => cases h
theorem asS_at {d : D} {v : V} {ds : List D} (a : At K μ I H) (r : Rp K I d v) (h : asS μ d = some ds) : ∃ p vs, v = .ref p ∧ (SqL K H p vs ∨ SqT K H p vs) ∧ RpA K I ds vs := by
  cases d with
  | tup es =>
    cases (show some es = some ds from h)
    obtain ⟨p, vs, e, h1, h2⟩ := r
    exact ⟨p, vs, e, .inr ((show Exx I H from a.sub).sqt h1), h2⟩
  | lst es => obtain ⟨p, vs, e, h1, h2⟩ := asL_at a r h; exact ⟨p, vs, e, .inl (SqL.of h1), h2⟩
  | adr p => obtain ⟨p, vs, e, h1, h2⟩ := asL_at a r h; exact ⟨p, vs, e, .inl (SqL.of h1), h2⟩
  | non => cases h
  | bl _ => cases h
  | int _ => cases h
  | str _ => cases h
  | ty _ => cases h
  | obj _ _ _ => cases h
  | scr _ => cases h
end

/-! ### names, constants -/
section
variable {X : Cx} {K : PySem.W.Frag} {a b c e : Expr} {es rest : List Expr} {ta tb tc te : TE} {ta2 tb2 tc2 te2 : TE2} {pos : Pos} {tt tu : TT} {tt2 tu2 : TT2} {tl : TA} {tl2 : TA2}
def dVar (i : Nat) : TE2 := fun ρ μ Q => ∃ d, ρ[i]? = some (some d) ∧ Q d μ
def dC (d : D) : TE2 := fun _ μ Q => Q d μ
theorem w_var {i : Nat} {ρ : Env2} {μ : Mu} {Q : DK} {d : D} (h : ρ[i]? = some (some d)) (q : Q d μ) : dVar i ρ μ Q := ⟨d, h, q⟩
theorem w_c {d : D} {ρ : Env2} {μ : Mu} {Q : DK} (q : Q d μ) : dC d ρ μ Q := q
theorem e_pv (i : Nat) (h : PE X e (tVar i)) : PE2 X e (tVar i) (dVar i) := ⟨h, fun ρ μ Q2 q I σ H hA hS Q g => by
  obtain ⟨d, h1, h2⟩ := q
  obtain ⟨v, e1, e2⟩ := hS.2 i d h1
  exact ⟨v, e1, g d μ v I H h2 hA Kp.refl e2⟩⟩
theorem e_cst {v : V} {d : D} (h : PE X e (tC v)) (r : ∀ I, Rp X.K I d v) : PE2 X e (tC v) (dC d) := ⟨h, fun ρ μ Q2 q I σ H hA hS Q g => g d μ v I H q hA Kp.refl (r I)⟩
theorem e_int {i : Int} {j} : PE2 X (.Constant (.int i) j pos) (tC (.int i)) (dC (.int i)) := e_cst pe_int fun _ => rfl
theorem e_bl {b j} : PE2 X (.Constant (.bool b) j pos) (tC (.bl b)) (dC (.bl b)) := e_cst pe_bl fun _ => rfl
theorem e_non {j} : PE2 X (.Constant .none j pos) (tC .non) (dC .non) := e_cst pe_non fun _ => rfl
theorem e_str {x j} : PE2 X (.Constant (.str x) j pos) (tC (.str x)) (dC (.str x)) := e_cst pe_str fun _ => rfl

/-! ### operators -/
abbrev DR2 := D → D → Mu → DK → Prop
abbrev DR1 := D → Mu → DK → Prop
def RR (K : PySem.W.Frag) (r : R2) (r2 : DR2) : Prop := ∀ x y μ Q2, r2 x y μ Q2 → ∀ I H vx vy, At K μ I H → Rp K I x vx → Rp K I y vy → ∀ Q : VK, Go K I μ H Q2 Q → r vx vy H Q
def RU1 (K : PySem.W.Frag) (r : V → Hp → VK → Prop) (r2 : DR1) : Prop := ∀ x μ Q2, r2 x μ Q2 → ∀ I H vx, At K μ I H → Rp K I x vx → ∀ Q : VK, Go K I μ H Q2 Q → r vx H Q
def dOp (r : DR2) (ta tb : TE2) : TE2 := fun ρ μ Q => ta ρ μ fun x μ1 => tb ρ μ1 fun y μ2 => r x y μ2 Q
def dUn (r : DR1) (ta : TE2) : TE2 := fun ρ μ Q => ta ρ μ fun x μ1 => r x μ1 Q
theorem w_op {r : DR2} {ρ : Env2} {μ : Mu} {Q : DK} (h : ta2 ρ μ fun x μ1 => tb2 ρ μ1 fun y μ2 => r x y μ2 Q) : dOp r ta2 tb2 ρ μ Q := h
theorem w_un {r : DR1} {ρ : Env2} {μ : Mu} {Q : DK} (h : ta2 ρ μ fun x μ1 => r x μ1 Q) : dUn r ta2 ρ μ Q := h
theorem re_op {r : R2} {r2 : DR2} (hr : RR K r r2) (ha : RE K ta ta2) (hb : RE K tb tb2) : RE K (tOp r ta tb) (dOp r2 ta2 tb2) := fun ρ μ Q2 q I σ H hA hS Q g =>
  ha ρ μ _ q I σ H hA hS _ fun x μ1 vx I1 H1 q1 a1 k1 r1 => hb ρ μ1 _ q1 I1 σ H1 a1 (hS.mono k1.ex) _ fun y μ2 vy I2 H2 q2 a2 k2 r2' =>
    hr x y μ2 Q2 q2 I2 H2 vx vy a2 (r1.mono k2.ex) r2' Q (g.past (k1.trans k2))
theorem re_un {r : V → Hp → VK → Prop} {r2 : DR1} (hr : RU1 K r r2) (ha : RE K ta ta2) : RE K (tUn r ta) (dUn r2 ta2) := fun ρ μ Q2 q I σ H hA hS Q g =>
  ha ρ μ _ q I σ H hA hS _ fun x μ1 vx I1 H1 q1 a1 k1 r1 => hr x μ1 Q2 q1 I1 H1 vx a1 r1 Q (g.past k1)
theorem e_op {op : Operator} {r : R2} {r2 : DR2} (ho : OpR X (binaryOp op) r) (hr : RR X.K r r2) (ha : PE2 X a ta ta2) (hb : PE2 X b tb tb2) : PE2 X (.BinOp a op b pos) (tOp r ta tb) (dOp r2 ta2 tb2) :=
  ⟨pe_op ho ha.pe hb.pe, re_op hr ha.re hb.re⟩
theorem e_cmp {op : CmpOp} {r : R2} {r2 : DR2} (ho : OpR X (compareOp op) r) (hr : RR X.K r r2) (ha : PE2 X a ta ta2) (hb : PE2 X b tb tb2) (hm : behindInMarks op b = false) : PE2 X (.Compare a [op] [b] pos) (tOp r ta tb) (dOp r2 ta2 tb2) :=
  ⟨pe_cmpR ho ha.pe hb.pe hm, re_op hr ha.re hb.re⟩
theorem e_un {op : UnaryOp} {r : V → Hp → VK → Prop} {r2 : DR1} (ho : UnR X (unaryOp op) r) (hr : RU1 X.K r r2) (ha : PE2 X a ta ta2) : PE2 X (.UnaryOp op a pos) (tUn r ta) (dUn r2 ta2) :=
  ⟨pe_un ho ha.pe, re_un hr ha.re⟩
/-- one rule or another one -/
def rOr (r s : R2) : R2 := fun x y H Q => r x y H Q ∨ s x y H Q
theorem opOr {f : Value → Value → Sem Value} {r s : R2} (h : OpR X f r) (g : OpR X f s) : OpR X f (rOr r s) := by
  intro pins s' σ H x y v u Q I rx ry q
  rcases q with q | q
  · exact h pins s' σ H x y v u Q I rx ry q
  · exact g pins s' σ H x y v u Q I rx ry q
/-- two ints -/
def dI0 (g : Int → Int → D) : DR2 := fun x y μ Q => ∃ i j, x = .int i ∧ y = .int j ∧ Q (g i j) μ
def dI (C : Int → Int → Prop) (g : Int → Int → D) : DR2 := fun x y μ Q => ∃ i j, x = .int i ∧ y = .int j ∧ C i j ∧ Q (g i j) μ
theorem rr_I0 {g : Int → Int → V} {g2 : Int → Int → D} (h : ∀ I i j, Rp K I (g2 i j) (g i j)) : RR K (rI0 g) (dI0 g2) := fun x y μ Q2 q I H vx vy hA rx ry Q k => by
  obtain ⟨i, j, rfl, rfl, q⟩ := q
  exact ⟨i, j, rx, ry, k _ μ _ I H q hA Kp.refl (h I i j)⟩
theorem rr_I {C : Int → Int → Prop} {g : Int → Int → V} {g2 : Int → Int → D} (h : ∀ I i j, Rp K I (g2 i j) (g i j)) : RR K (rI C g) (dI C g2) := fun x y μ Q2 q I H vx vy hA rx ry Q k => by
  obtain ⟨i, j, rfl, rfl, c, q⟩ := q
  exact ⟨i, j, rx, ry, c, k _ μ _ I H q hA Kp.refl (h I i j)⟩
theorem w_I0 {g : Int → Int → D} {i j : Int} {μ : Mu} {Q : DK} (q : Q (g i j) μ) : dI0 g (.int i) (.int j) μ Q := ⟨i, j, rfl, rfl, q⟩
theorem w_I {C : Int → Int → Prop} {g : Int → Int → D} {i j : Int} {μ : Mu} {Q : DK} (c : C i j) (q : Q (g i j) μ) : dI C g (.int i) (.int j) μ Q := ⟨i, j, rfl, rfl, c, q⟩

abbrev rvSub : R2 := rI0 fun i j => .int (i - j)
abbrev rvMul : R2 := rI CMul fun i j => .int (i * j)
abbrev rvMulW : R2 := rI CMulW fun i j => .int (i * j)
abbrev rvMod : R2 := rI (fun _ j => 0 < j) fun i j => .int (i % j)
abbrev rvFdiv : R2 := rI CDivW fun i j => .int (i / j)
abbrev rvPow : R2 := rI CPow fun i j => .int (i ^ j.toNat)
abbrev rvShl : R2 := rI CPow fun i j => .int (i * 2 ^ j.toNat)
abbrev rvShr : R2 := rI (fun _ j => 0 ≤ j) fun i j => .int (i / 2 ^ j.toNat)
abbrev rvBitAnd : R2 := rI0 fun i j => .int (Builtin.bitAnd i j)
abbrev rvBitOr : R2 := rI0 fun i j => .int (Builtin.bitOr i j)
abbrev rvBitXor : R2 := rI0 fun i j => .int (Builtin.bitXor i j)
abbrev rvLt : R2 := rI0 fun i j => .bl (decide (i < j))
abbrev rvLe : R2 := rI0 fun i j => .bl (decide (i ≤ j))
abbrev rvGt : R2 := rI0 fun i j => .bl (decide (j < i))
abbrev rvGe : R2 := rI0 fun i j => .bl (decide (j ≤ i))
def dSub : DR2 := dI0 fun i j => .int (i - j)
def dMul : DR2 := dI CMul fun i j => .int (i * j)
def dMulW : DR2 := dI CMulW fun i j => .int (i * j)
def dMod : DR2 := dI (fun _ j => 0 < j) fun i j => .int (i % j)
def dFdiv : DR2 := dI CDivW fun i j => .int (i / j)
def dPow : DR2 := dI CPow fun i j => .int (i ^ j.toNat)
def dShl : DR2 := dI CPow fun i j => .int (i * 2 ^ j.toNat)
def dShr : DR2 := dI (fun _ j => 0 ≤ j) fun i j => .int (i / 2 ^ j.toNat)
def dBitAnd : DR2 := dI0 fun i j => .int (Builtin.bitAnd i j)
def dBitOr : DR2 := dI0 fun i j => .int (Builtin.bitOr i j)
def dBitXor : DR2 := dI0 fun i j => .int (Builtin.bitXor i j)
theorem e_sub (ha : PE2 X a ta ta2) (hb : PE2 X b tb tb2) : PE2 X (.BinOp a .Sub b pos) (tOp rvSub ta tb) (dOp dSub ta2 tb2) := e_op op_sub (rr_I0 fun _ _ _ => rfl) ha hb
theorem e_mul (ha : PE2 X a ta ta2) (hb : PE2 X b tb tb2) : PE2 X (.BinOp a .Mult b pos) (tOp rvMul ta tb) (dOp dMul ta2 tb2) := e_op op_mul (rr_I fun _ _ _ => rfl) ha hb
theorem e_mulW (ha : PE2 X a ta ta2) (hb : PE2 X b tb tb2) : PE2 X (.BinOp a .Mult b pos) (tOp rvMulW ta tb) (dOp dMulW ta2 tb2) := e_op op_mulW (rr_I fun _ _ _ => rfl) ha hb
theorem e_mod (ha : PE2 X a ta ta2) (hb : PE2 X b tb tb2) : PE2 X (.BinOp a .Mod b pos) (tOp rvMod ta tb) (dOp dMod ta2 tb2) := e_op op_mod (rr_I fun _ _ _ => rfl) ha hb
theorem e_fdiv (ha : PE2 X a ta ta2) (hb : PE2 X b tb tb2) : PE2 X (.BinOp a .FloorDiv b pos) (tOp rvFdiv ta tb) (dOp dFdiv ta2 tb2) := e_op op_fdivW (rr_I fun _ _ _ => rfl) ha hb
theorem e_pow (ha : PE2 X a ta ta2) (hb : PE2 X b tb tb2) : PE2 X (.BinOp a .Pow b pos) (tOp rvPow ta tb) (dOp dPow ta2 tb2) := e_op op_pow (rr_I fun _ _ _ => rfl) ha hb
theorem e_shl (ha : PE2 X a ta ta2) (hb : PE2 X b tb tb2) : PE2 X (.BinOp a .LShift b pos) (tOp rvShl ta tb) (dOp dShl ta2 tb2) := e_op op_shl (rr_I fun _ _ _ => rfl) ha hb
theorem e_shr (ha : PE2 X a ta ta2) (hb : PE2 X b tb tb2) : PE2 X (.BinOp a .RShift b pos) (tOp rvShr ta tb) (dOp dShr ta2 tb2) := e_op op_shr (rr_I fun _ _ _ => rfl) ha hb
theorem e_bitand (ha : PE2 X a ta ta2) (hb : PE2 X b tb tb2) : PE2 X (.BinOp a .BitAnd b pos) (tOp rvBitAnd ta tb) (dOp dBitAnd ta2 tb2) := e_op op_and (rr_I0 fun _ _ _ => rfl) ha hb
theorem e_bitor (ha : PE2 X a ta ta2) (hb : PE2 X b tb tb2) : PE2 X (.BinOp a .BitOr b pos) (tOp rvBitOr ta tb) (dOp dBitOr ta2 tb2) := e_op op_or (rr_I0 fun _ _ _ => rfl) ha hb
theorem e_bitxor (ha : PE2 X a ta ta2) (hb : PE2 X b tb tb2) : PE2 X (.BinOp a .BitXor b pos) (tOp rvBitXor ta tb) (dOp dBitXor ta2 tb2) := e_op op_xor (rr_I0 fun _ _ _ => rfl) ha hb
theorem w_sub {i j : Int} {μ : Mu} {Q : DK} (q : Q (.int (i - j)) μ) : dSub (.int i) (.int j) μ Q := ⟨i, j, rfl, rfl, q⟩
theorem w_mul {i j : Int} {μ : Mu} {Q : DK} (c : CMul i j) (q : Q (.int (i * j)) μ) : dMul (.int i) (.int j) μ Q := ⟨i, j, rfl, rfl, c, q⟩
theorem w_mulW {i j : Int} {μ : Mu} {Q : DK} (c : CMulW i j) (q : Q (.int (i * j)) μ) : dMulW (.int i) (.int j) μ Q := ⟨i, j, rfl, rfl, c, q⟩
theorem w_mod {i j : Int} {μ : Mu} {Q : DK} (c : 0 < j) (q : Q (.int (i % j)) μ) : dMod (.int i) (.int j) μ Q := ⟨i, j, rfl, rfl, c, q⟩
theorem w_fdiv {i j : Int} {μ : Mu} {Q : DK} (c : CDivW i j) (q : Q (.int (i / j)) μ) : dFdiv (.int i) (.int j) μ Q := ⟨i, j, rfl, rfl, c, q⟩
theorem w_pow {i j : Int} {μ : Mu} {Q : DK} (c : CPow i j) (q : Q (.int (i ^ j.toNat)) μ) : dPow (.int i) (.int j) μ Q := ⟨i, j, rfl, rfl, c, q⟩
theorem w_shl {i j : Int} {μ : Mu} {Q : DK} (c : CPow i j) (q : Q (.int (i * 2 ^ j.toNat)) μ) : dShl (.int i) (.int j) μ Q := ⟨i, j, rfl, rfl, c, q⟩
theorem w_shr {i j : Int} {μ : Mu} {Q : DK} (c : 0 ≤ j) (q : Q (.int (i / 2 ^ j.toNat)) μ) : dShr (.int i) (.int j) μ Q := ⟨i, j, rfl, rfl, c, q⟩
theorem w_bitand {i j : Int} {μ : Mu} {Q : DK} (q : Q (.int (Builtin.bitAnd i j)) μ) : dBitAnd (.int i) (.int j) μ Q := ⟨i, j, rfl, rfl, q⟩
theorem w_bitor {i j : Int} {μ : Mu} {Q : DK} (q : Q (.int (Builtin.bitOr i j)) μ) : dBitOr (.int i) (.int j) μ Q := ⟨i, j, rfl, rfl, q⟩
theorem w_bitxor {i j : Int} {μ : Mu} {Q : DK} (q : Q (.int (Builtin.bitXor i j)) μ) : dBitXor (.int i) (.int j) μ Q := ⟨i, j, rfl, rfl, q⟩
def dNeg : DR1 := fun x μ Q => ∃ i, x = .int i ∧ Q (.int (-i)) μ
theorem w_neg {i : Int} {μ : Mu} {Q : DK} (q : Q (.int (-i)) μ) : dNeg (.int i) μ Q := ⟨i, rfl, q⟩
theorem e_neg (ha : PE2 X a ta ta2) : PE2 X (.UnaryOp .USub a pos) (tUn (rU fun i => .int (-i)) ta) (dUn dNeg ta2) := e_un un_neg (fun x μ Q2 q I H vx hA rx Q k => by
  obtain ⟨i, rfl, q⟩ := q
  exact ⟨i, rx, k _ μ _ I H q hA Kp.refl rfl⟩) ha
/-! comparisons of ints -/
def dLt : DR2 := dI0 fun i j => .bl (decide (i < j))
def dLe : DR2 := dI0 fun i j => .bl (decide (i ≤ j))
def dGt : DR2 := dI0 fun i j => .bl (decide (j < i))
def dGe : DR2 := dI0 fun i j => .bl (decide (j ≤ i))
theorem w_lt {i j : Int} {μ : Mu} {Q : DK} (q : Q (.bl (decide (i < j))) μ) : dLt (.int i) (.int j) μ Q := ⟨i, j, rfl, rfl, q⟩
theorem w_le {i j : Int} {μ : Mu} {Q : DK} (q : Q (.bl (decide (i ≤ j))) μ) : dLe (.int i) (.int j) μ Q := ⟨i, j, rfl, rfl, q⟩
theorem w_gt {i j : Int} {μ : Mu} {Q : DK} (q : Q (.bl (decide (j < i))) μ) : dGt (.int i) (.int j) μ Q := ⟨i, j, rfl, rfl, q⟩
theorem w_ge {i j : Int} {μ : Mu} {Q : DK} (q : Q (.bl (decide (j ≤ i))) μ) : dGe (.int i) (.int j) μ Q := ⟨i, j, rfl, rfl, q⟩
theorem e_lt (ha : PE2 X a ta ta2) (hb : PE2 X b tb tb2) : PE2 X (.Compare a [.Lt] [b] pos) (tOp rvLt ta tb) (dOp dLt ta2 tb2) := e_cmp op_lt (rr_I0 fun _ _ _ => rfl) ha hb (nomark _)
theorem e_le (ha : PE2 X a ta ta2) (hb : PE2 X b tb tb2) : PE2 X (.Compare a [.LtE] [b] pos) (tOp rvLe ta tb) (dOp dLe ta2 tb2) := e_cmp op_le (rr_I0 fun _ _ _ => rfl) ha hb (nomark _)
theorem e_gt (ha : PE2 X a ta ta2) (hb : PE2 X b tb tb2) : PE2 X (.Compare a [.Gt] [b] pos) (tOp rvGt ta tb) (dOp dGt ta2 tb2) := e_cmp op_gt (rr_I0 fun _ _ _ => rfl) ha hb (nomark _)
theorem e_ge (ha : PE2 X a ta ta2) (hb : PE2 X b tb tb2) : PE2 X (.Compare a [.GtE] [b] pos) (tOp rvGe ta tb) (dOp dGe ta2 tb2) := e_cmp op_ge (rr_I0 fun _ _ _ => rfl) ha hb (nomark _)
end
end Y

set_option Elab.async false
set_option linter.all false
set_option maxRecDepth 100000
set_option maxHeartbeats 4000000
namespace Y
open PySem PySem.Spec PyProof.Rows L2
section
variable {X : Cx} {K : PySem.W.Frag} {a b c e o : Expr} {es rest : List Expr} {ta tb tc te to : TE} {ta2 tb2 tc2 te2 to2 : TE2} {pos apos : Pos} {tt tu : TT} {tt2 tu2 : TT2} {tl : TA} {tl2 : TA2}
variable {ρ : Env2} {μ : Mu} {Q : DK}

/-! ### sums -/
def dNewL (ds : List D) (μ : Mu) (Q : DK) : Prop := ds.length ≤ sizeLine ∧ ∀ p, μ p = none → Q (.adr p) (mup μ p (.lst ds))
theorem w_newL {ds : List D} (z : ds.length ≤ sizeLine) (q : ∀ p, μ p = none → Q (.adr p) (mup μ p (.lst ds))) : dNewL ds μ Q := ⟨z, q⟩
theorem go_newL {I H : Hp} {ds : List D} {vs : List V} {Q2 : DK} {Q : VK} (q : dNewL ds μ Q2) (hA : At K μ I H) (r : RpA K I ds vs) (k : Go K I μ H Q2 Q) : ∀ p, H p = none → Q (.ref p) (upd H p (.lst vs)) := fun p hp =>
  k _ _ _ _ _ (q.2 p (hA.noM hp)) (hA.got hp ⟨vs, rfl, r⟩) (Kp.got hp) rfl
theorem go_newT {I H : Hp} {ds : List D} {vs : List V} {Q2 : DK} {Q : VK} (q : Q2 (.tup ds) μ) (hA : At K μ I H) (r : RpA K I ds vs) (k : Go K I μ H Q2 Q) : ∀ p, H p = none → Q (.ref p) (upd H p (.tup vs)) := fun p hp =>
  k _ _ _ _ _ q (hA.laid hp) (Kp.laid hp (hA.noI hp)) ⟨p, vs, rfl, SqT.of upd_same, r.mono (Exx.new (hA.noI hp))⟩
abbrev rvAddI : R2 := rI0 fun i j => .int (i + j)
abbrev rvAddS : R2 := fun x y H Q => ∃ i j, x = .str i ∧ y = .str j ∧ i.length + j.length ≤ sizeLine ∧ Q (.str (i ++ j)) H
abbrev rvAdd (K : PySem.W.Frag) : R2 := rOr rvAddI (rOr rvAddS (rOr rCat (rCatA K)))
def dAdd : DR2 := fun x y μ Q => (∃ i j, x = .int i ∧ y = .int j ∧ Q (.int (i + j)) μ) ∨ (∃ i j, x = .str i ∧ y = .str j ∧ i.length + j.length ≤ sizeLine ∧ Q (.str (i ++ j)) μ) ∨
  (∃ xs ys, asL μ x = some xs ∧ asL μ y = some ys ∧ dNewL (xs ++ ys) μ Q) ∨ (∃ xs ys, x = .tup xs ∧ y = .tup ys ∧ xs.length + ys.length ≤ sizeLine ∧ Q (.tup (xs ++ ys)) μ)
theorem rr_add : RR K (rvAdd K) dAdd := fun x y μ Q2 q I H vx vy hA rx ry Q k => by
  rcases q with ⟨i, j, rfl, rfl, q⟩ | ⟨i, j, rfl, rfl, z, q⟩ | ⟨xs, ys, e1, e2, q⟩ | ⟨xs, ys, rfl, rfl, z, q⟩
  · exact .inl ⟨i, j, rx, ry, k _ μ _ I H q hA Kp.refl rfl⟩
  · exact .inr (.inl ⟨i, j, rx, ry, z, k _ μ _ I H q hA Kp.refl rfl⟩)
  · obtain ⟨p, vs, e3, h3, r3⟩ := asL_at hA rx e1
    obtain ⟨p', vs', e4, h4, r4⟩ := asL_at hA ry e2
    refine .inr (.inr (.inl ⟨p, p', vs, vs', e3, e4, h3, h4, ?_, go_newL q hA (r3.append r4) k⟩))
    rw [r3.length, r4.length, ← List.length_append]; exact q.1
  · obtain ⟨p, vs, e3, h3, r3⟩ := rx
    obtain ⟨p', vs', e4, h4, r4⟩ := ry
    have hs : Exx I H := hA.sub
    refine .inr (.inr (.inr ⟨p, p', vs, vs', e3, e4, hs.sqt h3, hs.sqt h4, by rw [r3.length, r4.length]; exact z, fun z => ?_, fun _ z => ?_, fun _ _ => go_newT q hA (r3.append r4) k⟩))
    · have e : xs = [] := List.eq_nil_of_length_eq_zero (by rw [← r3.length, z]; rfl)
      subst e
      exact k _ _ _ _ _ q hA Kp.refl ⟨p', vs', rfl, h4, r4⟩
    · have e : ys = [] := List.eq_nil_of_length_eq_zero (by rw [← r4.length, z]; rfl)
      subst e
      rw [List.append_nil] at q
      exact k _ _ _ _ _ q hA Kp.refl ⟨p, vs, rfl, h3, r3⟩
theorem e_add (ha : PE2 X a ta ta2) (hb : PE2 X b tb tb2) : PE2 X (.BinOp a .Add b pos) (tOp (rvAdd X.K) ta tb) (dOp dAdd ta2 tb2) := e_op (opOr op_add (opOr op_add_str (opOr op_cat op_catA))) rr_add ha hb
theorem w_addI {i j : Int} (q : Q (.int (i + j)) μ) : dAdd (.int i) (.int j) μ Q := .inl ⟨i, j, rfl, rfl, q⟩
theorem w_addS {i j : Str} (z : i.length + j.length ≤ sizeLine) (q : Q (.str (i ++ j)) μ) : dAdd (.str i) (.str j) μ Q := .inr (.inl ⟨i, j, rfl, rfl, z, q⟩)
theorem w_addL {x y : D} {xs ys : List D} (e1 : asL μ x = some xs) (e2 : asL μ y = some ys) (q : dNewL (xs ++ ys) μ Q) : dAdd x y μ Q := .inr (.inr (.inl ⟨xs, ys, e1, e2, q⟩))
theorem w_addT {xs ys : List D} (z : xs.length + ys.length ≤ sizeLine) (q : Q (.tup (xs ++ ys)) μ) : dAdd (.tup xs) (.tup ys) μ Q := .inr (.inr (.inr ⟨xs, ys, rfl, rfl, z, q⟩))
/-- a list times an int -/
def dRep : DR2 := fun x y μ Q => ∃ xs k, asL μ x = some xs ∧ y = .int k ∧ -(2 ^ 63) ≤ k ∧ k < 2 ^ 63 ∧ dNewL (List.replicate k.toNat xs).flatten μ Q
theorem RpA.rep {I : Hp} {ds : List D} {vs : List V} (r : RpA K I ds vs) : ∀ n : Nat, RpA K I (List.replicate n ds).flatten (List.replicate n vs).flatten
  | 0 => rfl
  | n + 1 => by
    rw [List.replicate_succ, List.replicate_succ, List.flatten_cons, List.flatten_cons]
    exact r.append (RpA.rep r n)
theorem rr_rep : RR K rRep dRep := fun x y μ Q2 q I H vx vy hA rx ry Q k => by
  obtain ⟨xs, n, e1, rfl, h1, h2, q⟩ := q
  obtain ⟨p, vs, e3, h3, r3⟩ := asL_at hA rx e1
  refine ⟨p, n, vs, e3, ry, h3, h1, h2, ?_, go_newL q hA (r3.rep _) k⟩
  have z := q.1
  rw [← (r3.rep n.toNat).length] at z
  have e : (List.replicate n.toNat vs).flatten.length = n.toNat * vs.length := by
    induction n.toNat with
    | zero => simp
    | succ m ih => rw [List.replicate_succ, List.flatten_cons, List.length_append, ih, Nat.succ_mul, Nat.add_comm]
  rw [e, Nat.mul_comm] at z
  exact z
theorem e_rep (ha : PE2 X a ta ta2) (hb : PE2 X b tb tb2) : PE2 X (.BinOp a .Mult b pos) (tOp rRep ta tb) (dOp dRep ta2 tb2) := e_op op_rep rr_rep ha hb
theorem w_rep {x : D} {xs : List D} {k : Int} (e1 : asL μ x = some xs) (h1 : -(2 ^ 63) ≤ k) (h2 : k < 2 ^ 63) (q : dNewL (List.replicate k.toNat xs).flatten μ Q) : dRep x (.int k) μ Q := ⟨xs, k, e1, rfl, h1, h2, q⟩

/-! ### equality -/
mutual
def D.py : D → PyData
  | .non => .none
  | .bl b => .bool b
  | .int i => .int i
  | .str x => .str x
  | .tup ds => .tuple (D.pyA ds)
  | .lst ds => .list (D.pyA ds)
  | .ty _ => .none
  | .adr _ => .none
  | .obj _ _ _ => .none
  | .scr ns => .list (ns.map PyData.int)
def D.pyA : List D → List PyData
  | [] => []
  | d :: ds => D.py d :: D.pyA ds
end
mutual
/-- data of no more than so many levels -/
def D.shp : Nat → D → Bool
  | _, .non => true
  | _, .bl _ => true
  | _, .int _ => true
  | _, .str x => PyData.strOk x
  | n + 1, .tup ds => D.shpA n ds
  | n + 1, .lst ds => D.shpA n ds
  | _, _ => false
def D.shpA : Nat → List D → Bool
  | _, [] => true
  | n, d :: ds => D.shp n d && D.shpA n ds
end
mutual
theorem shp_py : ∀ {n : Nat} {d : D}, D.shp n d = true → d.py.canLay0 = true ∧ d.py.depth ≤ n
  | _, .non, _ => ⟨rfl, Nat.zero_le _⟩
  | _, .bl _, _ => ⟨rfl, Nat.zero_le _⟩
  | _, .int _, _ => ⟨rfl, Nat.zero_le _⟩
  | n, .str x, h => ⟨by cases n <;> exact h, Nat.zero_le _⟩
  | n + 1, .tup ds, h => let ⟨p, q⟩ := shpA_py (n := n) (ds := ds) h; ⟨p, Nat.succ_le_succ q⟩
  | n + 1, .lst ds, h => let ⟨p, q⟩ := shpA_py (n := n) (ds := ds) h; ⟨p, Nat.succ_le_succ q⟩
  | 0, .tup _, h => by cases h
  | 0, .lst _, h => by cases h
  | n, .ty _, h => by cases n <;> cases h
  | n, .adr _, h => by cases n <;> cases h
  | n, .obj _ _ _, h => by cases n <;> cases h
  | n, .scr _, h => by cases n <;> cases h
theorem shpA_py : ∀ {n : Nat} {ds : List D}, D.shpA n ds = true → PyData.canLayAll0 (D.pyA ds) = true ∧ PyData.depthAll (D.pyA ds) ≤ n
  | _, [], _ => ⟨rfl, Nat.zero_le _⟩
  | n, d :: ds, h => by
    unfold D.shpA at h
    rw [Bool.and_eq_true] at h
    obtain ⟨h1, h2⟩ := h
    obtain ⟨p1, q1⟩ := shp_py h1
    obtain ⟨p2, q2⟩ := shpA_py h2
    refine ⟨?_, Nat.max_le.mpr ⟨q1, q2⟩⟩
    show (PyData.canLay0 (D.py d) && PyData.canLayAll0 (D.pyA ds)) = true
    rw [p1, p2]; rfl
end
mutual
theorem shp_dp {I H : Hp} (hs : Exx I H) : ∀ {n : Nat} {d : D} {v : V}, D.shp n d = true → Rp K I d v → Dp K H v d.py
  | _, .non, _, _, r => by cases (show _ = _ from r); exact .non
  | _, .bl b, _, _, r => by cases (show _ = _ from r); exact .bl b
  | _, .int i, _, _, r => by cases (show _ = _ from r); exact .int i
  | _, .str x, _, _, r => by cases (show _ = _ from r); exact .str x
  | n + 1, .tup ds, _, h, r => by
    obtain ⟨p, vs, rfl, h1, h2⟩ := r
    exact .tup (hs.sqt h1) (shpA_dp hs (n := n) h h2)
  | n + 1, .lst ds, _, h, r => by
    obtain ⟨p, vs, rfl, h1, h2⟩ := r
    exact .lst (SqL.of (hs _ _ h1)) (shpA_dp hs (n := n) h h2)
  | 0, .tup _, _, h, _ => by cases h
  | 0, .lst _, _, h, _ => by cases h
  | n, .ty _, _, h, _ => by cases n <;> cases h
  | n, .adr _, _, h, _ => by cases n <;> cases h
  | n, .obj _ _ _, _, h, _ => by cases n <;> cases h
  | n, .scr _, _, h, _ => by cases n <;> cases h
theorem shpA_dp {I H : Hp} (hs : Exx I H) : ∀ {n : Nat} {ds : List D} {vs : List V}, D.shpA n ds = true → RpA K I ds vs → DpAll K H vs (D.pyA ds)
  | _, [], _, _, r => by cases (show _ = _ from r); exact .nil
  | n, d :: ds, _, h, r => by
    unfold D.shpA at h
    rw [Bool.and_eq_true] at h
    obtain ⟨v, q, rfl, r1, r2⟩ := r
    exact .cons (shp_dp hs h.1 r1) (shpA_dp hs h.2 r2)
end
/-- an owned list of data, as it is -/
def rsv (μ : Mu) : D → D
  | .adr a => match μ a with
    | some (.lst ds) => .lst ds
    | _ => .adr a
  | d => d
theorem rsv_dp {I H : Hp} {n : Nat} {d : D} {v : V} (hA : At K μ I H) (h : D.shp n (rsv μ d) = true) (r : Rp K I d v) : Dp K H v (rsv μ d).py := by
  cases d with
  | adr p =>
    cases q : μ p with
    | none => simp only [rsv, q] at h; cases n <;> cases h
    | some m =>
      cases m with
      | lst ds =>
        simp only [rsv, q] at h ⊢
        obtain ⟨_, ho, h1, vs, rfl, h2⟩ := hA.own p _ q
        cases (show _ = _ from r)
        cases n with
        | zero => cases h
        | succ n => exact .lst (SqL.of h1) (shpA_dp hA.sub (n := n) h h2)
      | dk _ => simp only [rsv, q] at h; cases n <;> cases h
      | ins _ _ => simp only [rsv, q] at h; cases n <;> cases h
  | _ => exact shp_dp hA.sub h r
/-- scalars -/
def eqS : D → D → Option Bool
  | .non, .non => some true | .non, .int _ => some false | .int _, .non => some false | .non, .bl _ => some false | .bl _, .non => some false | .non, .str _ => some false | .str _, .non => some false
  | .int i, .int j => some (decide (i = j)) | .bl a, .bl b => some (decide (a = b)) | .str x, .str y => some (decide (x = y))
  | .int _, .str _ => some false | .str _, .int _ => some false | .bl _, .str _ => some false | .str _, .bl _ => some false
  | _, _ => none
theorem eqS_ok {I : Hp} {x y : D} {vx vy : V} {b : Bool} (h : eqS x y = some b) (rx : Rp K I x vx) (ry : Rp K I y vy) : scal vx vy = true ∧ decide (vx = vy) = b := by
  cases x with
  | non => cases (show vx = _ from rx); cases y <;> first | (cases h; done) | (cases (show vy = _ from ry); cases h; exact ⟨rfl, by first | rfl | simp⟩)
  | bl _ => cases (show vx = _ from rx); cases y <;> first | (cases h; done) | (cases (show vy = _ from ry); cases h; exact ⟨rfl, by first | rfl | simp⟩)
  | int _ => cases (show vx = _ from rx); cases y <;> first | (cases h; done) | (cases (show vy = _ from ry); cases h; exact ⟨rfl, by first | rfl | simp⟩)
  | str _ => cases (show vx = _ from rx); cases y <;> first | (cases h; done) | (cases (show vy = _ from ry); cases h; exact ⟨rfl, by first | rfl | simp⟩)
  | ty _ => cases y <;> cases h
  | adr _ => cases y <;> cases h
  | tup _ => cases y <;> cases h
  | lst _ => cases y <;> cases h
  | obj _ _ _ => cases y <;> cases h
  | scr _ => cases y <;> cases h
/-- what == tells -/
def EqR (μ : Mu) (x y : D) (b : Bool) : Prop := eqS x y = some b ∨ (D.shp 64 (rsv μ x) = true ∧ D.shp 64 (rsv μ y) = true ∧ PyData.eqv (rsv μ x).py (rsv μ y).py = b)
def dEq : DR2 := fun x y μ Q => ∃ b, EqR μ x y b ∧ Q (.bl b) μ
def dNe : DR2 := fun x y μ Q => ∃ b, EqR μ x y b ∧ Q (.bl (!b)) μ
theorem w_eq {x y : D} {b : Bool} (h : EqR μ x y b) (q : Q (.bl b) μ) : dEq x y μ Q := ⟨b, h, q⟩
theorem w_ne {x y : D} {b : Bool} (h : EqR μ x y b) (q : Q (.bl (!b)) μ) : dNe x y μ Q := ⟨b, h, q⟩
theorem w_eqS {x y : D} {b : Bool} (h : eqS x y = some b) (q : Q (.bl b) μ) : dEq x y μ Q := ⟨b, .inl h, q⟩
theorem w_neS {x y : D} {b : Bool} (h : eqS x y = some b) (q : Q (.bl (!b)) μ) : dNe x y μ Q := ⟨b, .inl h, q⟩
theorem w_eqD {x y : D} (h1 : D.shp 64 (rsv μ x) = true) (h2 : D.shp 64 (rsv μ y) = true) (q : Q (.bl (PyData.eqv (rsv μ x).py (rsv μ y).py)) μ) : dEq x y μ Q := ⟨_, .inr ⟨h1, h2, rfl⟩, q⟩
theorem w_neD {x y : D} (h1 : D.shp 64 (rsv μ x) = true) (h2 : D.shp 64 (rsv μ y) = true) (q : Q (.bl (!PyData.eqv (rsv μ x).py (rsv μ y).py)) μ) : dNe x y μ Q := ⟨_, .inr ⟨h1, h2, rfl⟩, q⟩
theorem shaped_of {n : Nat} {d : D} (hn : n ≤ 64) (h : D.shp n d = true) : SeqAt.shaped d.py = true := by
  obtain ⟨h1, h2⟩ := shp_py h
  unfold SeqAt.shaped
  rw [h1, decide_eq_true (Nat.le_trans h2 hn)]; rfl
theorem rr_eq : RR K (rOr rEq (rEqD K)) dEq := fun x y μ Q2 q I H vx vy hA rx ry Q k => by
  obtain ⟨b, h, q⟩ := q
  rcases h with h | ⟨h1, h2, h3⟩
  · obtain ⟨s, e⟩ := eqS_ok h rx ry
    exact .inl ⟨s, by rw [e]; exact k _ _ _ _ _ q hA Kp.refl rfl⟩
  · exact .inr ⟨_, _, rsv_dp hA h1 rx, rsv_dp hA h2 ry, shaped_of (Nat.le_refl _) h1, shaped_of (Nat.le_refl _) h2, by rw [h3]; exact k _ _ _ _ _ q hA Kp.refl rfl⟩
theorem rr_ne : RR K (rOr rNe (rNeD K)) dNe := fun x y μ Q2 q I H vx vy hA rx ry Q k => by
  obtain ⟨b, h, q⟩ := q
  rcases h with h | ⟨h1, h2, h3⟩
  · obtain ⟨s, e⟩ := eqS_ok h rx ry
    exact .inl ⟨s, by rw [e]; exact k _ _ _ _ _ q hA Kp.refl rfl⟩
  · exact .inr ⟨_, _, rsv_dp hA h1 rx, rsv_dp hA h2 ry, shaped_of (Nat.le_refl _) h1, shaped_of (Nat.le_refl _) h2, by rw [h3]; exact k _ _ _ _ _ q hA Kp.refl rfl⟩
theorem e_eq {k : Nat} (hr : Room k X.A) (ha : PE2 X a ta ta2) (hb : PE2 X b tb tb2) : PE2 X (.Compare a [.Eq] [b] pos) (tOp (rOr rEq (rEqD X.K)) ta tb) (dOp dEq ta2 tb2) := e_cmp (opOr op_eq (op_eqD hr.units)) rr_eq ha hb (nomark _)
theorem e_ne {k : Nat} (hr : Room k X.A) (ha : PE2 X a ta ta2) (hb : PE2 X b tb tb2) : PE2 X (.Compare a [.NotEq] [b] pos) (tOp (rOr rNe (rNeD X.K)) ta tb) (dOp dNe ta2 tb2) := e_cmp (opOr op_ne (op_neD hr.units)) rr_ne ha hb (nomark _)

/-! ### is -/
def dIsN : DR2 := fun x y μ Q => y = .non ∧ ((x = .non ∧ Q (.bl true) μ) ∨ (x ≠ .non ∧ Q (.bl false) μ))
def dNotN : DR2 := fun x y μ Q => y = .non ∧ ((x = .non ∧ Q (.bl false) μ) ∨ (x ≠ .non ∧ Q (.bl true) μ))
theorem w_isN1 (q : Q (.bl true) μ) : dIsN .non .non μ Q := ⟨rfl, .inl ⟨rfl, q⟩⟩
theorem w_isN0 {x : D} (h : x ≠ .non) (q : Q (.bl false) μ) : dIsN x .non μ Q := ⟨rfl, .inr ⟨h, q⟩⟩
theorem w_notN1 (q : Q (.bl false) μ) : dNotN .non .non μ Q := ⟨rfl, .inl ⟨rfl, q⟩⟩
theorem w_notN0 {x : D} (h : x ≠ .non) (q : Q (.bl true) μ) : dNotN x .non μ Q := ⟨rfl, .inr ⟨h, q⟩⟩
theorem rp_non {I : Hp} {x : D} {v : V} (r : Rp K I x v) (h : x ≠ .non) : v ≠ .non := by
  cases x with
  | non => exact absurd rfl h
  | bl _ => cases (show v = _ from r); exact fun z => nomatch z
  | int _ => cases (show v = _ from r); exact fun z => nomatch z
  | str _ => cases (show v = _ from r); exact fun z => nomatch z
  | ty _ => cases (show v = _ from r); exact fun z => nomatch z
  | adr _ => cases (show v = _ from r); exact fun z => nomatch z
  | tup _ => obtain ⟨_, _, rfl, _⟩ := r; exact fun z => nomatch z
  | lst _ => obtain ⟨_, _, rfl, _⟩ := r; exact fun z => nomatch z
  | obj _ _ _ => obtain ⟨_, _, _, rfl, _⟩ := r; exact fun z => nomatch z
  | scr _ => obtain ⟨_, rfl, _⟩ := r; exact fun z => nomatch z
abbrev rvIsN : R2 := fun x y H Q => y = .non ∧ Q (.bl (decide (x = .non))) H
abbrev rvNotN : R2 := fun x y H Q => y = .non ∧ Q (.bl (!decide (x = .non))) H
theorem rr_isN : RR K rvIsN dIsN := fun x y μ Q2 q I H vx vy hA rx ry Q k => by
  obtain ⟨rfl, q⟩ := q
  refine ⟨ry, ?_⟩
  rcases q with ⟨rfl, q⟩ | ⟨h, q⟩
  · cases (show vx = _ from rx); exact k _ _ _ _ _ q hA Kp.refl rfl
  · rw [decide_eq_false (rp_non rx h)]; exact k _ _ _ _ _ q hA Kp.refl rfl
theorem rr_notN : RR K rvNotN dNotN := fun x y μ Q2 q I H vx vy hA rx ry Q k => by
  obtain ⟨rfl, q⟩ := q
  refine ⟨ry, ?_⟩
  rcases q with ⟨rfl, q⟩ | ⟨h, q⟩
  · cases (show vx = _ from rx); exact k _ _ _ _ _ q hA Kp.refl rfl
  · rw [decide_eq_false (rp_non rx h)]; exact k _ _ _ _ _ q hA Kp.refl rfl
theorem e_isN (ha : PE2 X a ta ta2) (hb : PE2 X b tb tb2) : PE2 X (.Compare a [.Is] [b] pos) (tOp rvIsN ta tb) (dOp dIsN ta2 tb2) := e_cmp op_isN rr_isN ha hb (nomark _)
theorem e_notN (ha : PE2 X a ta ta2) (hb : PE2 X b tb tb2) : PE2 X (.Compare a [.IsNot] [b] pos) (tOp rvNotN ta tb) (dOp dNotN ta2 tb2) := e_cmp op_notN rr_notN ha hb (nomark _)
/-- is True, is False, of truths -/
def dIsB : DR2 := fun x y μ Q => ∃ a b, x = .bl a ∧ y = .bl b ∧ Q (.bl (decide (a = b))) μ
def dNotB : DR2 := fun x y μ Q => ∃ a b, x = .bl a ∧ y = .bl b ∧ Q (.bl (!decide (a = b))) μ
theorem w_isB {a b : Bool} (q : Q (.bl (decide (a = b))) μ) : dIsB (.bl a) (.bl b) μ Q := ⟨a, b, rfl, rfl, q⟩
theorem w_notB {a b : Bool} (q : Q (.bl (!decide (a = b))) μ) : dNotB (.bl a) (.bl b) μ Q := ⟨a, b, rfl, rfl, q⟩
theorem e_isB (ha : PE2 X a ta ta2) (hb : PE2 X b tb tb2) : PE2 X (.Compare a [.Is] [b] pos) (tOp rIsB ta tb) (dOp dIsB ta2 tb2) := e_cmp op_isBl (fun x y μ Q2 q I H vx vy hA rx ry Q k => by
  obtain ⟨a, b, rfl, rfl, q⟩ := q
  exact ⟨a, b, rx, ry, k _ _ _ _ _ q hA Kp.refl rfl⟩) ha hb (nomark _)
theorem e_notB (ha : PE2 X a ta ta2) (hb : PE2 X b tb tb2) : PE2 X (.Compare a [.IsNot] [b] pos) (tOp rNotB ta tb) (dOp dNotB ta2 tb2) := e_cmp op_notBl (fun x y μ Q2 q I H vx vy hA rx ry Q k => by
  obtain ⟨a, b, rfl, rfl, q⟩ := q
  exact ⟨a, b, rx, ry, k _ _ _ _ _ q hA Kp.refl rfl⟩) ha hb (nomark _)

/-! ### in -/
def D.flat : D → Bool
  | .non => true | .bl _ => true | .int _ => true | .str _ => true | _ => false
def D.v : D → V
  | .bl b => .bl b | .int i => .int i | .str x => .str x | _ => .non
theorem flat_v {I : Hp} {d : D} {v : V} (h : d.flat = true) (r : Rp K I d v) : v = d.v ∧ flatV v = true := by
  cases d with
  | non => cases (show v = _ from r); exact ⟨rfl, rfl⟩
  | bl _ => cases (show v = _ from r); exact ⟨rfl, rfl⟩
  | int _ => cases (show v = _ from r); exact ⟨rfl, rfl⟩
  | str _ => cases (show v = _ from r); exact ⟨rfl, rfl⟩
  | ty _ => cases h
  | adr _ => cases h
  | tup _ => cases h
  | lst _ => cases h
  | obj _ _ _ => cases h
  | scr _ => cases h
theorem flat_vs {I : Hp} : ∀ {ds : List D} {vs : List V}, ds.all D.flat = true → RpA K I ds vs → vs = ds.map D.v ∧ vs.all flatV = true
  | [], _, _, r => by cases (show _ = _ from r); exact ⟨rfl, rfl⟩
  | d :: ds, _, h, r => by
    obtain ⟨v, w, rfl, r1, r2⟩ := r
    rw [List.all_cons, Bool.and_eq_true] at h
    obtain ⟨e1, f1⟩ := flat_v h.1 r1
    obtain ⟨e2, f2⟩ := flat_vs h.2 r2
    exact ⟨by rw [e1, e2]; rfl, by rw [List.all_cons, f1, f2]; rfl⟩
def D.inn (x : D) (ds : List D) : Bool := inV x.v (ds.map D.v)
abbrev rvInS : R2 := fun x y H Q => ∃ (c : Nat) (z : Str), x = .str ⟨#[c]⟩ ∧ y = .str z ∧ Q (.bl (decide (c ∈ z.cps.toList))) H
abbrev rvNotInS : R2 := fun x y H Q => ∃ (c : Nat) (z : Str), x = .str ⟨#[c]⟩ ∧ y = .str z ∧ Q (.bl (!decide (c ∈ z.cps.toList))) H
abbrev rvInSS : R2 := fun x y H Q => ∃ i j, x = .str i ∧ y = .str j ∧ Q (.bl (!(Builtin.Str.occurrences j i 0 j.length 1).isEmpty)) H
abbrev rvNotInSS : R2 := fun x y H Q => ∃ i j, x = .str i ∧ y = .str j ∧ Q (.bl (!(!(Builtin.Str.occurrences j i 0 j.length 1).isEmpty))) H
/-- what in tells -/
def InR (μ : Mu) (x y : D) (k : Bool) : Prop := (∃ (c : Nat) (z : Str), x = .str ⟨#[c]⟩ ∧ y = .str z ∧ decide (c ∈ z.cps.toList) = k) ∨ (∃ i j, x = .str i ∧ y = .str j ∧ (!(Builtin.Str.occurrences j i 0 j.length 1).isEmpty) = k) ∨
  ∃ ds, asS μ y = some ds ∧ x.flat = true ∧ ds.all D.flat = true ∧ x.inn ds = k
def dIn : DR2 := fun x y μ Q => ∃ k, InR μ x y k ∧ Q (.bl k) μ
def dNotIn : DR2 := fun x y μ Q => ∃ k, InR μ x y k ∧ Q (.bl (!k)) μ
theorem rr_in : RR K (rOr rvInS (rOr rvInSS (rIn K false))) dIn := fun x y μ Q2 q I H vx vy hA rx ry Q k => by
  obtain ⟨b, h, q⟩ := q
  have fin := k _ _ _ _ _ q hA Kp.refl rfl
  rcases h with ⟨c, z, rfl, rfl, h⟩ | ⟨i, j, rfl, rfl, h⟩ | ⟨ds, h1, h2, h3, h4⟩
  · exact .inl ⟨c, z, rx, ry, by rw [h]; exact fin⟩
  · exact .inr (.inl ⟨i, j, rx, ry, by rw [h]; exact fin⟩)
  · obtain ⟨p, vs, e, hs, r⟩ := asS_at hA ry h1
    obtain ⟨e1, f1⟩ := flat_v h2 rx
    obtain ⟨e2, f2⟩ := flat_vs h3 r
    refine .inr (.inr ⟨p, vs, e, hs, f1, f2, ?_⟩)
    rw [if_neg Bool.false_ne_true, e1, e2]
    have h4' : inV x.v (ds.map D.v) = b := h4
    rw [h4']; exact fin
theorem rr_notIn : RR K (rOr rvNotInS (rOr rvNotInSS (rIn K true))) dNotIn := fun x y μ Q2 q I H vx vy hA rx ry Q k => by
  obtain ⟨b, h, q⟩ := q
  have fin := k _ _ _ _ _ q hA Kp.refl rfl
  rcases h with ⟨c, z, rfl, rfl, h⟩ | ⟨i, j, rfl, rfl, h⟩ | ⟨ds, h1, h2, h3, h4⟩
  · exact .inl ⟨c, z, rx, ry, by rw [h]; exact fin⟩
  · exact .inr (.inl ⟨i, j, rx, ry, by rw [h]; exact fin⟩)
  · obtain ⟨p, vs, e, hs, r⟩ := asS_at hA ry h1
    obtain ⟨e1, f1⟩ := flat_v h2 rx
    obtain ⟨e2, f2⟩ := flat_vs h3 r
    refine .inr (.inr ⟨p, vs, e, hs, f1, f2, ?_⟩)
    rw [if_pos rfl, e1, e2]
    have h4' : inV x.v (ds.map D.v) = b := h4
    rw [h4']; exact fin
theorem e_in (ha : PE2 X a ta ta2) (hb : PE2 X b tb tb2) (hm : behindInMarks .In b = false) : PE2 X (.Compare a [.In] [b] pos) (tOp (rOr rvInS (rOr rvInSS (rIn X.K false))) ta tb) (dOp dIn ta2 tb2) := e_cmp (opOr op_in_sign (opOr op_in_str op_in_seq)) rr_in ha hb hm
theorem e_notIn (ha : PE2 X a ta ta2) (hb : PE2 X b tb tb2) (hm : behindInMarks .NotIn b = false) : PE2 X (.Compare a [.NotIn] [b] pos) (tOp (rOr rvNotInS (rOr rvNotInSS (rIn X.K true))) ta tb) (dOp dNotIn ta2 tb2) := e_cmp (opOr op_notIn_sign (opOr op_notin_str op_notIn_seq)) rr_notIn ha hb hm
theorem w_inC {c : Nat} {z : Str} (q : Q (.bl (decide (c ∈ z.cps.toList))) μ) : dIn (.str ⟨#[c]⟩) (.str z) μ Q := ⟨_, .inl ⟨c, z, rfl, rfl, rfl⟩, q⟩
theorem w_notInC {c : Nat} {z : Str} (q : Q (.bl (!decide (c ∈ z.cps.toList))) μ) : dNotIn (.str ⟨#[c]⟩) (.str z) μ Q := ⟨_, .inl ⟨c, z, rfl, rfl, rfl⟩, q⟩
theorem w_inS {x y : D} {ds : List D} (h1 : asS μ y = some ds) (h2 : x.flat = true) (h3 : ds.all D.flat = true) (q : Q (.bl (x.inn ds)) μ) : dIn x y μ Q := ⟨_, .inr (.inr ⟨ds, h1, h2, h3, rfl⟩), q⟩
theorem w_notInS {x y : D} {ds : List D} (h1 : asS μ y = some ds) (h2 : x.flat = true) (h3 : ds.all D.flat = true) (q : Q (.bl (!x.inn ds)) μ) : dNotIn x y μ Q := ⟨_, .inr (.inr ⟨ds, h1, h2, h3, rfl⟩), q⟩
end
end Y

set_option Elab.async false
set_option linter.all false
set_option maxRecDepth 100000
set_option maxHeartbeats 4000000
namespace Y
open PySem PySem.Spec PyProof.Rows L2
section
variable {X : Cx} {K : PySem.W.Frag} {a b c e o : Expr} {es rest : List Expr} {ta tb tc te to : TE} {ta2 tb2 tc2 te2 to2 : TE2} {pos apos : Pos} {tt tu : TT} {tt2 tu2 : TT2} {tl : TA} {tl2 : TA2}
variable {ρ : Env2} {μ : Mu} {Q : DK} {T F : Mu → Prop}

/-! ### tests -/
def dVal (t : TE2) : TT2 := fun ρ μ T F => t ρ μ fun d μ' => ∃ b, d = .bl b ∧ Br b (T μ') (F μ')
def dTail (T F : Mu → Prop) : DK := fun d μ' => ∃ b, d = .bl b ∧ Br b (T μ') (F μ')
theorem w_tail {b : Bool} (h : Br b (T μ) (F μ)) : dTail T F (.bl b) μ := ⟨b, rfl, h⟩
theorem w_val (h : te2 ρ μ (dTail T F)) : dVal te2 ρ μ T F := h
theorem re_val {I H : Hp} {Q2 : Bool → Hp → Prop} {d : D} {v : V} (hA : At K μ I H) (r : Rp K I d v) (h : ∃ b, d = .bl b ∧ Br b (T μ) (F μ)) (g1 : GoU K I μ H T (Q2 true)) (g2 : GoU K I μ H F (Q2 false)) : ∃ k, v = .bl k ∧ Q2 k H := by
  obtain ⟨b, rfl, h⟩ := h
  refine ⟨b, r, ?_⟩
  cases b with
  | true => exact g1 μ I H (h.1 rfl) hA Kp.refl
  | false => exact g2 μ I H (h.2 rfl) hA Kp.refl
/-- a comparison, a call .. as a test -/
theorem t_cmp {op : CmpOp} {r : R2} {r2 : DR2} (ho : OpR X (compareOp op) r) (hr : RR X.K r r2) (ha : PE2 X a ta ta2) (hb : PE2 X b tb tb2) (hm : behindInMarks op b = false) : PT2 X (.Compare a [op] [b] pos) (tTest (tOp r ta tb)) (dVal (dOp r2 ta2 tb2)) :=
  ⟨pt_cmpR ho ha.pe hb.pe hm, fun ρ μ T F q I σ H hA hS Q g1 g2 => re_op hr ha.re hb.re ρ μ _ q I σ H hA hS _ fun d μ' v I' H' q' a' k' r' => re_val a' r' q' (g1.past k') (g2.past k')⟩
theorem t_val (he : PE2 X e te te2) (hw : ∀ whole, isTrue e X.env whole = (do let v ← whole; standAt e.pos; holding [v] (truthy v)) := by intro _; rfl) : PT2 X e (tB te) (dVal te2) :=
  ⟨pt_val he.pe hw, fun ρ μ T F q I σ H hA hS Q g1 g2 => he.re ρ μ _ q I σ H hA hS _ fun d μ' v I' H' q' a' k' r' => re_val a' r' q' (g1.past k') (g2.past k')⟩
theorem t_lt (ha : PE2 X a ta ta2) (hb : PE2 X b tb tb2) : PT2 X (.Compare a [.Lt] [b] pos) (tTest (tOp rvLt ta tb)) (dVal (dOp dLt ta2 tb2)) := t_cmp op_lt (rr_I0 fun _ _ _ => rfl) ha hb (nomark _)
theorem t_le (ha : PE2 X a ta ta2) (hb : PE2 X b tb tb2) : PT2 X (.Compare a [.LtE] [b] pos) (tTest (tOp rvLe ta tb)) (dVal (dOp dLe ta2 tb2)) := t_cmp op_le (rr_I0 fun _ _ _ => rfl) ha hb (nomark _)
theorem t_gt (ha : PE2 X a ta ta2) (hb : PE2 X b tb tb2) : PT2 X (.Compare a [.Gt] [b] pos) (tTest (tOp rvGt ta tb)) (dVal (dOp dGt ta2 tb2)) := t_cmp op_gt (rr_I0 fun _ _ _ => rfl) ha hb (nomark _)
theorem t_ge (ha : PE2 X a ta ta2) (hb : PE2 X b tb tb2) : PT2 X (.Compare a [.GtE] [b] pos) (tTest (tOp rvGe ta tb)) (dVal (dOp dGe ta2 tb2)) := t_cmp op_ge (rr_I0 fun _ _ _ => rfl) ha hb (nomark _)
theorem t_eq {k : Nat} (hr : Room k X.A) (ha : PE2 X a ta ta2) (hb : PE2 X b tb tb2) : PT2 X (.Compare a [.Eq] [b] pos) (tTest (tOp (rOr rEq (rEqD X.K)) ta tb)) (dVal (dOp dEq ta2 tb2)) := t_cmp (opOr op_eq (op_eqD hr.units)) rr_eq ha hb (nomark _)
theorem t_ne {k : Nat} (hr : Room k X.A) (ha : PE2 X a ta ta2) (hb : PE2 X b tb tb2) : PT2 X (.Compare a [.NotEq] [b] pos) (tTest (tOp (rOr rNe (rNeD X.K)) ta tb)) (dVal (dOp dNe ta2 tb2)) := t_cmp (opOr op_ne (op_neD hr.units)) rr_ne ha hb (nomark _)
theorem t_isN (ha : PE2 X a ta ta2) (hb : PE2 X b tb tb2) : PT2 X (.Compare a [.Is] [b] pos) (tTest (tOp rvIsN ta tb)) (dVal (dOp dIsN ta2 tb2)) := t_cmp op_isN rr_isN ha hb (nomark _)
theorem t_notN (ha : PE2 X a ta ta2) (hb : PE2 X b tb tb2) : PT2 X (.Compare a [.IsNot] [b] pos) (tTest (tOp rvNotN ta tb)) (dVal (dOp dNotN ta2 tb2)) := t_cmp op_notN rr_notN ha hb (nomark _)
theorem rr_isB : RR K rIsB dIsB := fun x y μ Q2 q I H vx vy hA rx ry Q k => by
  obtain ⟨a, b, rfl, rfl, q⟩ := q
  exact ⟨a, b, rx, ry, k _ _ _ _ _ q hA Kp.refl rfl⟩
theorem rr_notB : RR K rNotB dNotB := fun x y μ Q2 q I H vx vy hA rx ry Q k => by
  obtain ⟨a, b, rfl, rfl, q⟩ := q
  exact ⟨a, b, rx, ry, k _ _ _ _ _ q hA Kp.refl rfl⟩
theorem t_isB (ha : PE2 X a ta ta2) (hb : PE2 X b tb tb2) : PT2 X (.Compare a [.Is] [b] pos) (tTest (tOp rIsB ta tb)) (dVal (dOp dIsB ta2 tb2)) := t_cmp op_isBl rr_isB ha hb (nomark _)
theorem t_notB (ha : PE2 X a ta ta2) (hb : PE2 X b tb tb2) : PT2 X (.Compare a [.IsNot] [b] pos) (tTest (tOp rNotB ta tb)) (dVal (dOp dNotB ta2 tb2)) := t_cmp op_notBl rr_notB ha hb (nomark _)
theorem t_in (ha : PE2 X a ta ta2) (hb : PE2 X b tb tb2) (hm : behindInMarks .In b = false) : PT2 X (.Compare a [.In] [b] pos) (tTest (tOp (rOr rvInS (rOr rvInSS (rIn X.K false))) ta tb)) (dVal (dOp dIn ta2 tb2)) := t_cmp (opOr op_in_sign (opOr op_in_str op_in_seq)) rr_in ha hb hm
theorem t_notIn (ha : PE2 X a ta ta2) (hb : PE2 X b tb tb2) (hm : behindInMarks .NotIn b = false) : PT2 X (.Compare a [.NotIn] [b] pos) (tTest (tOp (rOr rvNotInS (rOr rvNotInSS (rIn X.K true))) ta tb)) (dVal (dOp dNotIn ta2 tb2)) := t_cmp (opOr op_notIn_sign (opOr op_notin_str op_notIn_seq)) rr_notIn ha hb hm
/-- and, or, not -/
def dAnd (t u : TT2) : TT2 := fun ρ μ T F => t ρ μ (fun μ1 => u ρ μ1 T F) F
def dOr (t u : TT2) : TT2 := fun ρ μ T F => t ρ μ T (fun μ1 => u ρ μ1 T F)
def dNot (t : TT2) : TT2 := fun ρ μ T F => t ρ μ F T
theorem w_and (h : tt2 ρ μ (fun μ1 => tu2 ρ μ1 T F) F) : dAnd tt2 tu2 ρ μ T F := h
theorem w_or (h : tt2 ρ μ T (fun μ1 => tu2 ρ μ1 T F)) : dOr tt2 tu2 ρ μ T F := h
theorem w_not (h : tt2 ρ μ F T) : dNot tt2 ρ μ T F := h
theorem t_not (h : PT2 X a tt tt2) : PT2 X (.UnaryOp .Not a pos) (tNot tt) (dNot tt2) := ⟨pt_not h.pt, fun ρ μ T F q I σ H hA hS Q g1 g2 => h.re ρ μ F T q I σ H hA hS _ g2 g1⟩
theorem RT.and (h : RT K tt tt2) (g : RT K tu tu2) : RT K (tAnd tt tu) (dAnd tt2 tu2) := fun ρ μ T F q I σ H hA hS Q g1 g2 =>
  h ρ μ _ F q I σ H hA hS _ (fun μ1 I1 H1 q1 a1 k1 => by
    show tu σ H1 Q
    exact g ρ μ1 T F q1 I1 σ H1 a1 (hS.mono k1.ex) Q (g1.past k1) (g2.past k1)) g2
theorem RT.or (h : RT K tt tt2) (g : RT K tu tu2) : RT K (tOr tt tu) (dOr tt2 tu2) := fun ρ μ T F q I σ H hA hS Q g1 g2 =>
  h ρ μ T _ q I σ H hA hS _ g1 (fun μ1 I1 H1 q1 a1 k1 => by
    show tu σ H1 Q
    exact g ρ μ1 T F q1 I1 σ H1 a1 (hS.mono k1.ex) Q (g1.past k1) (g2.past k1))
theorem k_and1 (h : PT2 X a tt tt2) : PW2 X (.BoolOp .And [a] pos) tt tt2 := ⟨pw_and1 h.pt, h.re⟩
theorem k_or1 (h : PT2 X a tt tt2) : PW2 X (.BoolOp .Or [a] pos) tt tt2 := ⟨pw_or1 h.pt, h.re⟩
theorem k_and (h : PT2 X a tt tt2) (g : PW2 X (.BoolOp .And (b :: rest) pos) tu tu2) : PW2 X (.BoolOp .And (a :: b :: rest) pos) (tAnd tt tu) (dAnd tt2 tu2) := ⟨pw_and h.pt g.pw, h.re.and g.re⟩
theorem k_or (h : PT2 X a tt tt2) (g : PW2 X (.BoolOp .Or (b :: rest) pos) tu tu2) : PW2 X (.BoolOp .Or (a :: b :: rest) pos) (tOr tt tu) (dOr tt2 tu2) := ⟨pw_or h.pt g.pw, h.re.or g.re⟩
theorem t_w (h : PW2 X a tt tt2) : PT2 X a tt tt2 := ⟨h.pw.pt, h.re⟩
/-- as values -/
def dAndV (ta tb : TE2) : TE2 := fun ρ μ Q => ta ρ μ fun d μ1 => ∃ b, d = .bl b ∧ Br b (tb ρ μ1 Q) (Q (.bl false) μ1)
def dOrV (ta tb : TE2) : TE2 := fun ρ μ Q => ta ρ μ fun d μ1 => ∃ b, d = .bl b ∧ Br b (Q (.bl true) μ1) (tb ρ μ1 Q)
def dNotV (ta : TE2) : TE2 := fun ρ μ Q => ta ρ μ fun d μ1 => ∃ b, d = .bl b ∧ Q (.bl (!b)) μ1
theorem w_andV (h : ta2 ρ μ (dTail (fun μ1 => tb2 ρ μ1 Q) (fun μ1 => Q (.bl false) μ1))) : dAndV ta2 tb2 ρ μ Q := h
theorem w_orV (h : ta2 ρ μ (dTail (fun μ1 => Q (.bl true) μ1) (fun μ1 => tb2 ρ μ1 Q))) : dOrV ta2 tb2 ρ μ Q := h
def dNotK (Q : DK) : DK := fun d μ1 => ∃ b, d = .bl b ∧ Q (.bl (!b)) μ1
theorem w_notK {b : Bool} (q : Q (.bl (!b)) μ) : dNotK Q (.bl b) μ := ⟨b, rfl, q⟩
theorem w_notV (h : ta2 ρ μ (dNotK Q)) : dNotV ta2 ρ μ Q := h
theorem e_one {op} (h : PE2 X a ta ta2) : PE2 X (.BoolOp op [a] pos) ta ta2 := ⟨pe_one h.pe, h.re⟩
theorem e_and (ha : PE2 X a ta ta2) (hb : PE2 X (.BoolOp .And (b :: rest) pos) tb tb2) : PE2 X (.BoolOp .And (a :: b :: rest) pos) (tAndV ta tb) (dAndV ta2 tb2) :=
  ⟨pe_and ha.pe hb.pe, fun ρ μ Q2 q I σ H hA hS Q g => ha.re ρ μ _ q I σ H hA hS _ fun d μ1 v I1 H1 q1 a1 k1 r1 => by
    obtain ⟨b, rfl, q1⟩ := q1
    refine ⟨b, r1, ?_⟩
    cases b with
    | true => exact hb.re ρ μ1 Q2 (q1.1 rfl) I1 σ H1 a1 (hS.mono k1.ex) Q (g.past k1)
    | false => exact g _ μ1 _ I1 H1 (q1.2 rfl) a1 k1 rfl⟩
theorem e_or (ha : PE2 X a ta ta2) (hb : PE2 X (.BoolOp .Or (b :: rest) pos) tb tb2) : PE2 X (.BoolOp .Or (a :: b :: rest) pos) (tOrV ta tb) (dOrV ta2 tb2) :=
  ⟨pe_or ha.pe hb.pe, fun ρ μ Q2 q I σ H hA hS Q g => ha.re ρ μ _ q I σ H hA hS _ fun d μ1 v I1 H1 q1 a1 k1 r1 => by
    obtain ⟨b, rfl, q1⟩ := q1
    refine ⟨b, r1, ?_⟩
    cases b with
    | true => exact g _ μ1 _ I1 H1 (q1.1 rfl) a1 k1 rfl
    | false => exact hb.re ρ μ1 Q2 (q1.2 rfl) I1 σ H1 a1 (hS.mono k1.ex) Q (g.past k1)⟩
theorem e_not (ha : PE2 X a ta ta2) : PE2 X (.UnaryOp .Not a pos) (tNotV ta) (dNotV ta2) :=
  ⟨pe_not ha.pe, fun ρ μ Q2 q I σ H hA hS Q g => ha.re ρ μ _ q I σ H hA hS _ fun d μ1 v I1 H1 q1 a1 k1 r1 => by
    obtain ⟨b, rfl, q1⟩ := q1
    exact ⟨b, r1, g _ μ1 _ I1 H1 q1 a1 k1 rfl⟩⟩
def dIf (t : TT2) (ta tb : TE2) : TE2 := fun ρ μ Q => t ρ μ (fun μ1 => ta ρ μ1 Q) (fun μ1 => tb ρ μ1 Q)
theorem w_if (h : tt2 ρ μ (fun μ1 => ta2 ρ μ1 Q) (fun μ1 => tb2 ρ μ1 Q)) : dIf tt2 ta2 tb2 ρ μ Q := h
theorem e_if (hc : PT2 X c tt tt2) (ha : PE2 X a ta ta2) (hb : PE2 X b tb tb2) : PE2 X (.IfExp c a b pos) (tIf tt ta tb) (dIf tt2 ta2 tb2) :=
  ⟨pe_ifExp hc.pt ha.pe hb.pe, fun ρ μ Q2 q I σ H hA hS Q g => hc.re ρ μ _ _ q I σ H hA hS _
    (fun μ1 I1 H1 q1 a1 k1 => by
      show ta σ H1 Q
      exact ha.re ρ μ1 Q2 q1 I1 σ H1 a1 (hS.mono k1.ex) Q (g.past k1))
    (fun μ1 I1 H1 q1 a1 k1 => by
      show tb σ H1 Q
      exact hb.re ρ μ1 Q2 q1 I1 σ H1 a1 (hS.mono k1.ex) Q (g.past k1))⟩
/-- a < b < c -/
def dChain (r r' : DR2) (ta tb tc : TE2) : TE2 := fun ρ μ Q => ta ρ μ fun x μ1 => tb ρ μ1 fun y μ2 => r x y μ2 (dTail (fun μ3 => tc ρ μ3 fun z μ4 => r' y z μ4 Q) (fun μ3 => Q (.bl false) μ3))
theorem w_chain {r r' : DR2} (h : ta2 ρ μ fun x μ1 => tb2 ρ μ1 fun y μ2 => r x y μ2 (dTail (fun μ3 => tc2 ρ μ3 fun z μ4 => r' y z μ4 Q) (fun μ3 => Q (.bl false) μ3))) : dChain r r' ta2 tb2 tc2 ρ μ Q := h
theorem re_chain {r r' : R2} {r2 r2' : DR2} (hr : RR K r r2) (hr' : RR K r' r2') (ha : RE K ta ta2) (hb : RE K tb tb2) (hc : RE K tc tc2) : RE K (tChain r r' ta tb tc) (dChain r2 r2' ta2 tb2 tc2) := fun ρ μ Q2 q I σ H hA hS Q g =>
  ha ρ μ _ q I σ H hA hS _ fun x μ1 vx I1 H1 q1 a1 k1 r1 => hb ρ μ1 _ q1 I1 σ H1 a1 (hS.mono k1.ex) _ fun y μ2 vy I2 H2 q2 a2 k2 r2w =>
    hr x y μ2 _ q2 I2 H2 vx vy a2 (r1.mono k2.ex) r2w _ fun d μ3 v I3 H3 q3 a3 k3 r3 => by
      obtain ⟨b, rfl, q3⟩ := q3
      refine ⟨b, r3, ?_⟩
      cases b with
      | true => exact hc ρ μ3 _ (q3.1 rfl) I3 σ H3 a3 (hS.mono ((k1.trans k2).trans k3).ex) _ fun z μ4 vz I4 H4 q4 a4 k4 r4 => hr' y z μ4 Q2 q4 I4 H4 vy vz a4 (r2w.mono (k3.trans k4).ex) r4 Q (g.past (((k1.trans k2).trans k3).trans k4))
      | false => exact g _ μ3 _ I3 H3 (q3.2 rfl) a3 ((k1.trans k2).trans k3) rfl
theorem e_chain {op op' : CmpOp} {r r' : R2} {r2 r2' : DR2} (ho : OpR X (compareOp op) r) (ho' : OpR X (compareOp op') r') (hr : RR X.K r r2) (hr' : RR X.K r' r2') (ha : PE2 X a ta ta2) (hb : PE2 X b tb tb2) (hc : PE2 X c tc tc2)
    (hm : lastMarks [op, op'] [b, c] = false := by with_unfolding_all rfl) : PE2 X (.Compare a [op, op'] [b, c] pos) (tChain r r' ta tb tc) (dChain r2 r2' ta2 tb2 tc2) :=
  ⟨pe_chain ho ho' ha.pe hb.pe hc.pe hm, re_chain hr hr' ha.re hb.re hc.re⟩
theorem rr_lt : RR K rvLt dLt := rr_I0 fun _ _ _ => rfl
theorem rr_le : RR K rvLe dLe := rr_I0 fun _ _ _ => rfl
/-! branches -/
theorem br_t {A B : Prop} (h : A) : Br true A B := ⟨fun _ => h, fun z => (by cases z)⟩
theorem br_f {A B : Prop} (h : B) : Br false A B := ⟨fun z => (by cases z), fun _ => h⟩
theorem br_dec {p : Prop} [Decidable p] {A B : Prop} (h1 : p → A) (h2 : ¬ p → B) : Br (decide p) A B := ⟨fun z => h1 (of_decide_eq_true z), fun z => h2 (of_decide_eq_false z)⟩
theorem br_not {b : Bool} {A B : Prop} (h : Br b B A) : Br (!b) A B := by cases b <;> first | exact br_t (h.2 rfl) | exact br_f (h.1 rfl)
theorem br_and {a b : Bool} {A B : Prop} (h : Br a (Br b A B) B) : Br (a && b) A B := by cases a <;> cases b <;> first | exact br_f (h.2 rfl) | exact h.1 rfl
theorem br_or {a b : Bool} {A B : Prop} (h : Br a A (Br b A B)) : Br (a || b) A B := by cases a <;> cases b <;> first | exact br_t (h.1 rfl) | exact h.2 rfl
theorem br_op {b : Bool} {A B : Prop} (h1 : b = true → A) (h2 : b = false → B) : Br b A B := ⟨h1, h2⟩
theorem br_T {b : Bool} {A B : Prop} (e : b = true) (h : A) : Br b A B := ⟨fun _ => h, fun z => by rw [e] at z; cases z⟩
theorem br_F {b : Bool} {A B : Prop} (e : b = false) (h : B) : Br b A B := ⟨fun z => (by rw [e] at z; cases z), fun _ => h⟩
theorem br_decT {p : Prop} [Decidable p] {A B : Prop} (e : p) (h : A) : Br (decide p) A B := br_T (decide_eq_true e) h
theorem br_decF {p : Prop} [Decidable p] {A B : Prop} (e : ¬ p) (h : B) : Br (decide p) A B := br_F (decide_eq_false e) h

/-! ### argument lists, displays -/
def dNil : TA2 := fun _ μ Q => Q [] μ
def dCons (ta : TE2) (tr : TA2) : TA2 := fun ρ μ Q => ta ρ μ fun x μ1 => tr ρ μ1 fun xs μ2 => Q (x :: xs) μ2
theorem w_nil {QA : List D → Mu → Prop} (q : QA [] μ) : dNil ρ μ QA := q
theorem w_cons {QA : List D → Mu → Prop} (h : ta2 ρ μ fun x μ1 => tl2 ρ μ1 fun xs μ2 => QA (x :: xs) μ2) : dCons ta2 tl2 ρ μ QA := h
theorem a_nil : PA2 X [] tNil dNil := ⟨pa_nil, fun ρ μ Q2 q I σ H hA hS Q g => g [] μ [] I H q hA Kp.refl rfl⟩
theorem a_cons (ha : PE2 X e te te2) (hr : PA2 X es tl tl2) (hs : starEach (e :: es) X.env = (false, eval e X.env) :: starEach es X.env := by rfl) : PA2 X (e :: es) (tCons te tl) (dCons te2 tl2) :=
  ⟨pa_cons ha.pe hr.pa hs, fun ρ μ Q2 q I σ H hA hS Q g => ha.re ρ μ _ q I σ H hA hS _ fun x μ1 vx I1 H1 q1 a1 k1 r1 => hr.re ρ μ1 _ q1 I1 σ H1 a1 (hS.mono k1.ex) _ fun xs μ2 vs I2 H2 q2 a2 k2 r2 =>
    g (x :: xs) μ2 (vx :: vs) I2 H2 q2 a2 (k1.trans k2) (RpA.cons (r1.mono k2.ex) r2)⟩
def dTup (t : TA2) : TE2 := fun ρ μ Q => t ρ μ fun ds μ1 => ds.length ≤ sizeLine ∧ Q (.tup ds) μ1
def dTupK (Q : DK) : List D → Mu → Prop := fun ds μ1 => ds.length ≤ sizeLine ∧ Q (.tup ds) μ1
theorem w_tup (h : tl2 ρ μ (dTupK Q)) : dTup tl2 ρ μ Q := h
theorem w_tupK {ds : List D} (z : ds.length ≤ sizeLine) (q : Q (.tup ds) μ) : dTupK Q ds μ := ⟨z, q⟩
def dLst (t : TA2) : TE2 := fun ρ μ Q => t ρ μ fun ds μ1 => dNewL ds μ1 Q
theorem w_lst (h : tl2 ρ μ fun ds μ1 => dNewL ds μ1 Q) : dLst tl2 ρ μ Q := h
theorem e_tup {x1} (h : PA2 X es tl tl2) : PE2 X (.Tuple es x1 pos) (tTup tl) (dTup tl2) :=
  ⟨pe_tup h.pa, fun ρ μ Q2 q I σ H hA hS Q g => h.re ρ μ _ q I σ H hA hS _ fun ds μ1 vs I1 H1 q1 a1 k1 r1 => ⟨by rw [r1.length]; exact q1.1, go_newT q1.2 a1 r1 (g.past k1)⟩⟩
theorem e_lst (h : PA2 X es tl tl2) : PE2 X (.List es pos) (tLst tl) (dLst tl2) :=
  ⟨pe_lst h.pa, fun ρ μ Q2 q I σ H hA hS Q g => h.re ρ μ _ q I σ H hA hS _ fun ds μ1 vs I1 H1 q1 a1 k1 r1 => ⟨by rw [r1.length]; exact q1.1, go_newL q1 a1 r1 (g.past k1)⟩⟩
/-- a list that stays from now on -/
def dFz (t : TE2) : TE2 := fun ρ μ Q => t ρ μ fun d μ1 => ∃ p ds, d = .adr p ∧ μ1 p = some (.lst ds) ∧ Q (.lst ds) (mdel μ1 p)
def dFzK (Q : DK) : DK := fun d μ1 => ∃ p ds, d = .adr p ∧ μ1 p = some (.lst ds) ∧ Q (.lst ds) (mdel μ1 p)
theorem w_fz (h : te2 ρ μ (dFzK Q)) : dFz te2 ρ μ Q := h
theorem w_fzK {p : Addr} {ds : List D} (h : μ p = some (.lst ds)) (q : Q (.lst ds) (mdel μ p)) : dFzK Q (.adr p) μ := ⟨p, ds, rfl, h, q⟩
/-- .. just made -/
theorem w_fzN {p : Addr} {ds : List D} (h : μ p = none) (q : Q (.lst ds) μ) : dFzK Q (.adr p) (mup μ p (.lst ds)) := ⟨p, ds, rfl, mup_same, by rw [mdel_mup h]; exact q⟩
theorem e_fz (h : PE2 X e te te2) : PE2 X e te (dFz te2) :=
  ⟨h.pe, fun ρ μ Q2 q I σ H hA hS Q g => h.re ρ μ _ q I σ H hA hS _ fun d μ1 v I1 H1 q1 a1 k1 r1 => by
    obtain ⟨p, ds, rfl, hp, q1⟩ := q1
    obtain ⟨hI, ho, h1, vs, rfl, h2⟩ := a1.own p _ hp
    exact g _ _ _ _ _ q1 (a1.frz hp h1) (k1.trans (Kp.frz hp hI)) ⟨p, vs, r1, upd_same, h2.mono (Exx.new hI)⟩⟩

/-! ### subscripts, slices -/
/-- an item of a list, a tuple, a text -/
def dIx : DR2 := fun x y μ Q => (∃ ds i d, asS μ x = some ds ∧ y = .int i ∧ atI ds i = some d ∧ Q d μ) ∨ ∃ z i c, x = .str z ∧ y = .int i ∧ z.length ≤ sizeLine ∧ atI z.cps.toList i = some c ∧ Q (.str ⟨#[c]⟩) μ
theorem w_ixS {x : D} {ds : List D} {i : Int} {d : D} (h : asS μ x = some ds) (e : atI ds i = some d) (q : Q d μ) : dIx x (.int i) μ Q := .inl ⟨ds, i, d, h, rfl, e, q⟩
theorem w_ixT {ds : List D} {i : Int} {d : D} (e : atI ds i = some d) (q : Q d μ) : dIx (.tup ds) (.int i) μ Q := .inl ⟨ds, i, d, rfl, rfl, e, q⟩
theorem w_ixL {ds : List D} {i : Int} {d : D} (e : atI ds i = some d) (q : Q d μ) : dIx (.lst ds) (.int i) μ Q := .inl ⟨ds, i, d, rfl, rfl, e, q⟩
theorem w_ixC {z : Str} {i : Int} {c : Nat} (h : z.length ≤ sizeLine) (e : atI z.cps.toList i = some c) (q : Q (.str ⟨#[c]⟩) μ) : dIx (.str z) (.int i) μ Q := .inr ⟨z, i, c, rfl, rfl, h, e, q⟩
theorem RpA.atI {I : Hp} {ds : List D} {vs : List V} {i : Int} {d : D} (r : RpA K I ds vs) (h : L2.atI ds i = some d) : ∃ v, L2.atI vs i = some v ∧ Rp K I d v := by
  unfold L2.atI at h ⊢
  rw [r.length]
  cases q : ixN ds.length i with
  | none => rw [q] at h; cases h
  | some j => rw [q] at h; exact r.get h
theorem rr_ix : RR K (rIx K) dIx := fun x y μ Q2 q I H vx vy hA rx ry Q k => by
  rcases q with ⟨ds, i, d, h, rfl, e, q⟩ | ⟨z, i, c, rfl, rfl, h, e, q⟩
  · obtain ⟨p, vs, e1, hs, r⟩ := asS_at hA rx h
    obtain ⟨v, e2, r2⟩ := r.atI e
    have fin := k _ _ _ _ _ q hA Kp.refl r2
    rcases hs with hs | hs
    · exact .inl ⟨p, vs, i, v, e1, ry, hs, e2, fin⟩
    · exact .inr (.inl ⟨p, vs, i, v, e1, ry, hs, e2, fin⟩)
  · exact .inr (.inr ⟨z, i, c, rx, ry, h, e, k _ _ _ _ _ q hA Kp.refl rfl⟩)
theorem e_ix (ha : PE2 X a ta ta2) (hb : PE2 X b tb tb2) (hs : PlainIx b) : PE2 X (.Subscript a b pos) (tOp (rIx X.K) ta tb) (dOp dIx ta2 tb2) := ⟨pe_ix ix_seq ha.pe hb.pe hs, re_op rr_ix ha.re hb.re⟩
/-- an item of the script -/
def dIxScr : DR2 := fun x y μ Q => ∃ ns i n, x = .scr ns ∧ y = .int i ∧ atI ns i = some n ∧ Q (.int n) μ
theorem w_ixScr {ns : List Int} {i n : Int} (e : atI ns i = some n) (q : Q (.int n) μ) : dIxScr (.scr ns) (.int i) μ Q := ⟨ns, i, n, rfl, rfl, e, q⟩
theorem atI_map {ns : List Int} {i n : Int} (h : atI ns i = some n) : atI (ns.map V.int) i = some (.int n) := by
  unfold atI at h ⊢
  rw [List.length_map]
  cases q : ixN ns.length i with
  | none => rw [q] at h; cases h
  | some j =>
    rw [q] at h
    show (ns.map V.int)[j]? = _
    rw [List.getElem?_map, show ns[j]? = some n from h]; rfl
theorem e_ixScr (ha : PE2 X a ta ta2) (hb : PE2 X b tb tb2) (hs : PlainIx b) : PE2 X (.Subscript a b pos) (tOp (rIxL X.K) ta tb) (dOp dIxScr ta2 tb2) := ⟨pe_ix ix_list ha.pe hb.pe hs, re_op (fun x y μ Q2 q I H vx vy hA rx ry Q k => by
  obtain ⟨ns, i, n, rfl, rfl, e, q⟩ := q
  obtain ⟨p, e1, hs⟩ := rx
  exact ⟨p, _, i, _, e1, ry, (show Exx I H from hA.sub).sql hs, atI_map e, k _ _ _ _ _ q hA Kp.refl rfl⟩) ha.re hb.re⟩
/-- slices -/
abbrev DSl := D → Option Int → Option Int → Mu → DK → Prop
abbrev TO2 := Env2 → Mu → (Option Int → Mu → Prop) → Prop
def RO (K : PySem.W.Frag) (to : TO) (t : TO2) : Prop := ∀ ρ μ Q2, t ρ μ Q2 → ∀ I σ H, At K μ I H → Slots K I ρ σ → ∀ Q : Option Int → Hp → Prop, (∀ i μ' I' H', Q2 i μ' → At K μ' I' H' → Kp I μ H I' μ' H' → Q i H') → to σ H Q
structure PO2 (X : Cx) (e : Option Expr) (to : TO) (t : TO2) : Prop where
  po : PO X e to
  re : RO X.K to t
def dNoPart : TO2 := fun _ μ Q => Q none μ
def dPart (t : TE2) : TO2 := fun ρ μ Q => t ρ μ fun d μ1 => ∃ i, d = .int i ∧ Q (some i) μ1
def dPartK (Q : Option Int → Mu → Prop) : DK := fun d μ1 => ∃ i, d = .int i ∧ Q (some i) μ1
theorem w_noPart {QO : Option Int → Mu → Prop} (q : QO none μ) : dNoPart ρ μ QO := q
theorem w_part {QO : Option Int → Mu → Prop} (h : te2 ρ μ (dPartK QO)) : dPart te2 ρ μ QO := h
theorem w_partK {QO : Option Int → Mu → Prop} {i : Int} (q : QO (some i) μ) : dPartK QO (.int i) μ := ⟨i, rfl, q⟩
theorem o_none : PO2 X none tNoPart dNoPart := ⟨po_none, fun ρ μ Q2 q I σ H hA hS Q g => g _ _ _ _ q hA Kp.refl⟩
theorem o_some (h : PE2 X e te te2) : PO2 X (some e) (tPart te) (dPart te2) := ⟨po_some h.pe, fun ρ μ Q2 q I σ H hA hS Q g => h.re ρ μ _ q I σ H hA hS _ fun d μ1 v I1 H1 q1 a1 k1 r1 => by
  obtain ⟨i, rfl, q1⟩ := q1
  exact ⟨i, r1, g _ _ _ _ q1 a1 k1⟩⟩
def cutD (ds : List D) (lo hi : Option Int) : List D := (ds.drop (HT.sIx ds.length 0 lo)).take (HT.sIx ds.length ds.length hi - HT.sIx ds.length 0 lo)
def dSl (te : TE2) (tl th : TO2) : TE2 := fun ρ μ Q => te ρ μ fun x μ1 => tl ρ μ1 fun lo μ2 => th ρ μ2 fun hi μ3 =>
  (∃ ds, x = .tup ds ∧ Q (.tup (cutD ds lo hi)) μ3) ∨ (∃ ds, asL μ3 x = some ds ∧ ∀ p, μ3 p = none → Q (.adr p) (mup μ3 p (.lst (cutD ds lo hi)))) ∨ ∃ z, x = .str z ∧ z.length ≤ sizeLine ∧ Q (.str (cutS z lo hi)) μ3
def dCut (x : D) (lo hi : Option Int) (μ3 : Mu) (Q : DK) : Prop :=
  (∃ ds, x = .tup ds ∧ Q (.tup (cutD ds lo hi)) μ3) ∨ (∃ ds, asL μ3 x = some ds ∧ ∀ p, μ3 p = none → Q (.adr p) (mup μ3 p (.lst (cutD ds lo hi)))) ∨ ∃ z, x = .str z ∧ z.length ≤ sizeLine ∧ Q (.str (cutS z lo hi)) μ3
theorem w_sl {tlo thi : TO2} (h : te2 ρ μ fun x μ1 => tlo ρ μ1 fun lo μ2 => thi ρ μ2 fun hi μ3 => dCut x lo hi μ3 Q) : dSl te2 tlo thi ρ μ Q := h
theorem w_cutT {ds : List D} {lo hi : Option Int} (q : Q (.tup (cutD ds lo hi)) μ) : dCut (.tup ds) lo hi μ Q := .inl ⟨ds, rfl, q⟩
theorem w_cutL {x : D} {ds : List D} {lo hi : Option Int} (h : asL μ x = some ds) (q : ∀ p, μ p = none → Q (.adr p) (mup μ p (.lst (cutD ds lo hi)))) : dCut x lo hi μ Q := .inr (.inl ⟨ds, h, q⟩)
theorem w_cutS {z : Str} {lo hi : Option Int} (h : z.length ≤ sizeLine) (q : Q (.str (cutS z lo hi)) μ) : dCut (.str z) lo hi μ Q := .inr (.inr ⟨z, rfl, h, q⟩)
theorem RpA.cut {I : Hp} {ds : List D} {vs : List V} (r : RpA K I ds vs) (lo hi : Option Int) : RpA K I (cutD ds lo hi) (cutV vs lo hi) := by
  unfold cutD cutV
  rw [r.length]
  exact (r.drop _).take _
/-- a slice of anything -/
def rSlAll (K : PySem.W.Frag) : V → Option Int → Option Int → Hp → VK → Prop := fun x lo hi H Q => rSlA K x lo hi H Q ∨ rSlL K x lo hi H Q ∨ rSlS x lo hi H Q
theorem sl_all : SlR X (rSlAll X.K) := by
  intro pins s σ H x v vl vu lo hi sl Q I rx hs pl pu h
  rcases h with h | h | h
  · exact sl_tupA pins s σ H x v vl vu lo hi sl Q I rx hs pl pu h
  · exact sl_list pins s σ H x v vl vu lo hi sl Q I rx hs pl pu h
  · exact sl_str pins s σ H x v vl vu lo hi sl Q I rx hs pl pu h
theorem e_slice {lo hi : Option Expr} {p2 : Pos} {tlo thi : TO} {tlo2 thi2 : TO2} (he : PE2 X e te te2) (hl : PO2 X lo tlo tlo2) (hh : PO2 X hi thi thi2) : PE2 X (.Subscript e (.Slice lo hi none p2) pos) (tSl (rSlAll X.K) te tlo thi) (dSl te2 tlo2 thi2) :=
  ⟨pe_slice sl_all he.pe hl.po hh.po, fun ρ μ Q2 q I σ H hA hS Q g => he.re ρ μ _ q I σ H hA hS _ fun x μ1 v I1 H1 q1 a1 k1 r1 => hl.re ρ μ1 _ q1 I1 σ H1 a1 (hS.mono k1.ex) _ fun l μ2 I2 H2 q2 a2 k2 =>
    hh.re ρ μ2 _ q2 I2 σ H2 a2 (hS.mono (k1.trans k2).ex) _ fun u μ3 I3 H3 q3 a3 k3 => by
      have kk := (k1.trans k2).trans k3
      have r3 := r1.mono (k2.trans k3).ex
      rcases q3 with ⟨ds, rfl, q3⟩ | ⟨ds, h, q3⟩ | ⟨z, rfl, h, q3⟩
      · obtain ⟨p, vs, e1, h1, h2⟩ := r3
        refine .inl ⟨p, vs, e1, (show Exx I3 H3 from a3.sub).sqt h1, fun w => ?_, fun _ => go_newT q3 a3 (h2.cut _ _) (g.past kk)⟩
        refine g _ _ _ _ _ q3 a3 kk ⟨p, vs, rfl, h1, ?_⟩
        have e : cutD ds l u = ds := by
          unfold cutD
          rw [h2.length] at w
          rw [w.1, w.2, Nat.sub_zero, List.drop_zero, List.take_length]
        rw [e]; exact h2
      · obtain ⟨p, vs, e1, h1, h2⟩ := asL_at a3 r3 h
        refine .inr (.inl ⟨p, vs, e1, SqL.of h1, fun p' hp => ?_⟩)
        exact g _ _ _ _ _ (q3 p' (a3.noM hp)) (a3.got hp ⟨_, rfl, h2.cut _ _⟩) (kk.trans (Kp.got hp)) rfl
      · exact .inr (.inr ⟨z, r3, h, g _ _ _ _ _ q3 a3 kk rfl⟩)⟩
/-- xs[::-1] of a list -/
def dRevL (t : TE2) : TE2 := fun ρ μ Q => t ρ μ fun x μ1 => ∃ ds, asL μ1 x = some ds ∧ ∀ p, μ1 p = none → Q (.adr p) (mup μ1 p (.lst ds.reverse))
def dRevK (Q : DK) : DK := fun x μ1 => ∃ ds, asL μ1 x = some ds ∧ ∀ p, μ1 p = none → Q (.adr p) (mup μ1 p (.lst ds.reverse))
theorem w_revL (h : te2 ρ μ (dRevK Q)) : dRevL te2 ρ μ Q := h
theorem w_revK {x : D} {ds : List D} (h : asL μ x = some ds) (q : ∀ p, μ p = none → Q (.adr p) (mup μ p (.lst ds.reverse))) : dRevK Q x μ := ⟨ds, h, q⟩
theorem e_revL {k : Nat} {p1 p2 p3 : Pos} (he : PE2 X e te te2) : PE2 X (.Subscript e (.Slice none none (some (.UnaryOp .USub (.Constant (.int 1) k p1) p2)) p3) pos) (tRevL X.K te) (dRevL te2) :=
  ⟨pe_revL he.pe, fun ρ μ Q2 q I σ H hA hS Q g => he.re ρ μ _ q I σ H hA hS _ fun x μ1 v I1 H1 q1 a1 k1 r1 => by
    obtain ⟨ds, h, q1⟩ := q1
    obtain ⟨p, vs, e1, h1, h2⟩ := asL_at a1 r1 h
    exact ⟨p, vs, e1, SqL.of h1, fun p' hp => g _ _ _ _ _ (q1 p' (a1.noM hp)) (a1.got hp ⟨_, rfl, h2.reverse⟩) (k1.trans (Kp.got hp)) rfl⟩⟩
end
end Y

set_option Elab.async false
set_option linter.all false
set_option maxRecDepth 100000
set_option maxHeartbeats 4000000
namespace Y
open PySem PySem.Spec PyProof.Rows L2
section
variable {X : Cx} {K : PySem.W.Frag} {a b c e o : Expr} {es rest : List Expr} {ta tb tc te to : TE} {ta2 tb2 tc2 te2 to2 : TE2} {pos apos cpos p : Pos} {tt tu : TT} {tt2 tu2 : TT2} {tl : TA} {tl2 : TA2} {x : Str}
variable {ρ : Env2} {μ : Mu} {Q : DK} {T F : Mu → Prop}

/-! ### built-ins by their names -/
abbrev DRC := List D → Mu → DK → Prop
def RC (K : PySem.W.Frag) (r : List V → Hp → VK → Prop) (r2 : DRC) : Prop := ∀ xs μ Q2, r2 xs μ Q2 → ∀ I H vs, At K μ I H → RpA K I xs vs → ∀ Q : VK, Go K I μ H Q2 Q → r vs H Q
def dCB (r : DRC) (t : TA2) : TE2 := fun ρ μ Q => t ρ μ fun ds μ1 => r ds μ1 Q
theorem w_cb {r : DRC} (h : tl2 ρ μ fun ds μ1 => r ds μ1 Q) : dCB r tl2 ρ μ Q := h
theorem re_cb {r : List V → Hp → VK → Prop} {r2 : DRC} (hr : RC K r r2) (h : RA K tl tl2) : RE K (tCB r tl) (dCB r2 tl2) := fun ρ μ Q2 q I σ H hA hS Q g =>
  h ρ μ _ q I σ H hA hS _ fun ds μ1 vs I1 H1 q1 a1 k1 r1 => hr ds μ1 Q2 q1 I1 H1 vs a1 r1 Q (g.past k1)
theorem e_cb {id : String} {r : List V → Hp → VK → Prop} {r2 : DRC} (hc : CallR X (.builtin id) r) (hr : RC X.K r r2) (hg : Gl X x) (hm : X.mg x = none) (hv : bootBuiltins x = some (.builtin id)) (ha : PA2 X (e :: es) tl tl2) (hn : x ≠ "__name__" := by decide) (hdb : (x == ("__debug__" : Str)) = false := by decide)
    (he : starEach (e :: es) X.env = (false, eval e X.env) :: starEach es X.env := by rfl) (hpl : (backTo pos (starEach es X.env)).any (·.1) = false := by rfl) :
    PE2 X (.Call (.Name x p) (e :: es) [] pos) (tCB r tl) (dCB r2 tl2) := ⟨pe_callB hc hg hm hv ha.pa hn hdb he hpl, re_cb hr ha.re⟩
theorem e_cty {T : String} {r : List V → Hp → VK → Prop} {r2 : DRC} (hc : CallR X (.type T) r) (hr : RC X.K r r2) (hg : Gl X x) (hm : X.mg x = none) (hv : bootBuiltins x = some (.type T)) (ha : PA2 X (e :: es) tl tl2) (hn : x ≠ "__name__" := by decide) (hdb : (x == ("__debug__" : Str)) = false := by decide)
    (he : starEach (e :: es) X.env = (false, eval e X.env) :: starEach es X.env := by rfl) (hpl : (backTo pos (starEach es X.env)).any (·.1) = false := by rfl) :
    PE2 X (.Call (.Name x p) (e :: es) [] pos) (tCB r tl) (dCB r2 tl2) := ⟨pe_callTy hc hg hm hv ha.pa hn hdb he hpl, re_cb hr ha.re⟩
/-- len -/
def dLen : DRC := fun xs μ Q => (∃ z, xs = [.str z] ∧ z.length ≤ sizeLine ∧ Q (.int z.length) μ) ∨ (∃ ns, xs = [.scr ns] ∧ Q (.int ns.length) μ) ∨ ∃ x ds, xs = [x] ∧ asS μ x = some ds ∧ Q (.int ds.length) μ
theorem w_lenS {z : Str} (h : z.length ≤ sizeLine) (q : Q (.int z.length) μ) : dLen [.str z] μ Q := .inl ⟨z, rfl, h, q⟩
theorem w_lenR {ns : List Int} (q : Q (.int ns.length) μ) : dLen [.scr ns] μ Q := .inr (.inl ⟨ns, rfl, q⟩)
theorem w_lenL {x : D} {ds : List D} (h : asS μ x = some ds) (q : Q (.int ds.length) μ) : dLen [x] μ Q := .inr (.inr ⟨x, ds, rfl, h, q⟩)
theorem w_lenT {ds : List D} (q : Q (.int ds.length) μ) : dLen [.tup ds] μ Q := .inr (.inr ⟨.tup ds, ds, rfl, rfl, q⟩)
abbrev rvLen (K : PySem.W.Frag) : List V → Hp → VK → Prop := fun xs H Q => ∃ x n, xs = [x] ∧ LenV K x H n ∧ Q (.int n) H
theorem RpA.one_inv {I : Hp} {d : D} {vs : List V} (r : RpA K I [d] vs) : ∃ v, vs = [v] ∧ Rp K I d v := by
  obtain ⟨v, w, rfl, h1, h2⟩ := r
  cases (show w = [] from h2)
  exact ⟨v, rfl, h1⟩
theorem RpA.two_inv {I : Hp} {d d' : D} {vs : List V} (r : RpA K I [d, d'] vs) : ∃ v v', vs = [v, v'] ∧ Rp K I d v ∧ Rp K I d' v' := by
  obtain ⟨v, w, rfl, h1, h2⟩ := r
  obtain ⟨v', rfl, h3⟩ := RpA.one_inv h2
  exact ⟨v, v', rfl, h1, h3⟩
theorem rc_len : RC K (rvLen K) dLen := fun xs μ Q2 q I H vs hA r Q k => by
  rcases q with ⟨z, rfl, h, q⟩ | ⟨ns, rfl, q⟩ | ⟨x, ds, rfl, h, q⟩
  · obtain ⟨v, rfl, e⟩ := r.one_inv
    cases (show v = _ from e)
    exact ⟨_, _, rfl, ⟨h, rfl⟩, k _ _ _ _ _ q hA Kp.refl rfl⟩
  · obtain ⟨v, rfl, e⟩ := r.one_inv
    obtain ⟨p, rfl, h⟩ := e
    refine ⟨_, _, rfl, .inl ⟨_, (show Exx I H from hA.sub).sql h, rfl⟩, ?_⟩
    rw [List.length_map]
    exact k _ _ _ _ _ q hA Kp.refl rfl
  · obtain ⟨v, rfl, e⟩ := r.one_inv
    obtain ⟨p, ws, rfl, h1, h2⟩ := asS_at hA e h
    refine ⟨_, ws.length, rfl, ?_, ?_⟩
    · rcases h1 with h1 | h1
      · exact .inl ⟨_, h1, rfl⟩
      · exact .inr ⟨_, h1, rfl⟩
    · rw [h2.length]; exact k _ _ _ _ _ q hA Kp.refl rfl
theorem e_len (hg : Gl X "len") (hm : X.mg "len" = none) (ha : PA2 X [e] tl tl2) (he : starEach [e] X.env = (false, eval e X.env) :: starEach [] X.env := by rfl) : PE2 X (.Call (.Name "len" p) [e] [] pos) (tCB (rvLen X.K) tl) (dCB dLen tl2) :=
  e_cb call_len rc_len hg hm PySem.boot_len ha (he := he)
/-- int, str, bool of a number -/
def dInt1 : DRC := fun xs μ Q => (∃ i, xs = [.int i] ∧ Q (.int i) μ) ∨ ∃ k, xs = [.bl k] ∧ Q (.int (if k then 1 else 0)) μ
theorem w_int1 {i : Int} (q : Q (.int i) μ) : dInt1 [.int i] μ Q := .inl ⟨i, rfl, q⟩
theorem w_intB {k : Bool} (q : Q (.int (if k then 1 else 0)) μ) : dInt1 [.bl k] μ Q := .inr ⟨k, rfl, q⟩
abbrev rvInt1 : List V → Hp → VK → Prop := fun xs H Q => (∃ i, xs = [.int i] ∧ Q (.int i) H) ∨ ∃ k, xs = [.bl k] ∧ Q (.int (if k then 1 else 0)) H
theorem rc_int1 : RC K rvInt1 dInt1 := fun xs μ Q2 q I H vs hA r Q k => by
  rcases q with ⟨i, rfl, q⟩ | ⟨i, rfl, q⟩
  · obtain ⟨v, rfl, e⟩ := r.one_inv
    cases (show v = _ from e)
    exact .inl ⟨_, rfl, k _ _ _ _ _ q hA Kp.refl rfl⟩
  · obtain ⟨v, rfl, e⟩ := r.one_inv
    cases (show v = _ from e)
    exact .inr ⟨_, rfl, k _ _ _ _ _ q hA Kp.refl rfl⟩
theorem e_int1 (hg : Gl X "int") (hm : X.mg "int" = none) (ha : PA2 X [e] tl tl2) (hv : bootBuiltins "int" = some (.type "int") := by decide +kernel) (he : starEach [e] X.env = (false, eval e X.env) :: starEach [] X.env := by rfl) : PE2 X (.Call (.Name "int" p) [e] [] pos) (tCB rvInt1 tl) (dCB dInt1 tl2) :=
  e_cty call_int1 rc_int1 hg hm hv ha (he := he)
def dStrI : DRC := fun xs μ Q => ∃ i : Int, xs = [.int i] ∧ i.natAbs.log2 < 1920 ∧ Q (.str (toString i)) μ
theorem w_strI {i : Int} (h : i.natAbs.log2 < 1920) (q : Q (.str (toString i)) μ) : dStrI [.int i] μ Q := ⟨i, rfl, h, q⟩
abbrev rvStrI : List V → Hp → VK → Prop := fun xs H Q => ∃ i : Int, xs = [.int i] ∧ i.natAbs.log2 < 1920 ∧ Q (.str (toString i)) H
theorem e_strI (hg : Gl X "str") (hm : X.mg "str" = none) (ha : PA2 X [e] tl tl2) (hv : bootBuiltins "str" = some (.type "str") := by decide +kernel) (he : starEach [e] X.env = (false, eval e X.env) :: starEach [] X.env := by rfl) : PE2 X (.Call (.Name "str" p) [e] [] pos) (tCB rvStrI tl) (dCB dStrI tl2) :=
  e_cty call_str_int (fun xs μ Q2 q I H vs hA r Q k => by
    obtain ⟨i, rfl, h, q⟩ := q
    obtain ⟨v, rfl, e⟩ := r.one_inv
    cases (show v = _ from e)
    exact ⟨_, rfl, h, k _ _ _ _ _ q hA Kp.refl rfl⟩) hg hm hv ha (he := he)
/-- max, min of two -/
def dMax2 : DRC := fun xs μ Q => ∃ i j, xs = [.int i, .int j] ∧ Q (.int (if j > i then j else i)) μ
def dMin2 : DRC := fun xs μ Q => ∃ i j, xs = [.int i, .int j] ∧ Q (.int (if j < i then j else i)) μ
theorem w_max2 {i j : Int} (q : Q (.int (if j > i then j else i)) μ) : dMax2 [.int i, .int j] μ Q := ⟨i, j, rfl, q⟩
theorem w_min2 {i j : Int} (q : Q (.int (if j < i then j else i)) μ) : dMin2 [.int i, .int j] μ Q := ⟨i, j, rfl, q⟩
abbrev rvMax2 : List V → Hp → VK → Prop := fun xs H Q => ∃ i j, xs = [.int i, .int j] ∧ Q (.int (if j > i then j else i)) H
abbrev rvMin2 : List V → Hp → VK → Prop := fun xs H Q => ∃ i j, xs = [.int i, .int j] ∧ Q (.int (if j < i then j else i)) H
theorem e_max2 (hg : Gl X "max") (hm : X.mg "max" = none) (ha : PA2 X [a, b] tl tl2) (hc : X.calm = true := by rfl) (hv : bootBuiltins "max" = some (.builtin "max") := by decide +kernel) (he : starEach [a, b] X.env = (false, eval a X.env) :: starEach [b] X.env := by rfl) (hpl : (backTo pos (starEach [b] X.env)).any (·.1) = false := by rfl) :
    PE2 X (.Call (.Name "max" p) [a, b] [] pos) (tCB rvMax2 tl) (dCB dMax2 tl2) := e_cb (call_max2 hc) (fun xs μ Q2 q I H vs hA r Q k => by
    obtain ⟨i, j, rfl, q⟩ := q
    obtain ⟨v, w, rfl, e1, e2⟩ := r.two_inv
    cases (show v = _ from e1)
    cases (show w = _ from e2)
    exact ⟨i, j, rfl, k _ _ _ _ _ q hA Kp.refl rfl⟩) hg hm hv ha (he := he) (hpl := hpl)
theorem e_min2 (hg : Gl X "min") (hm : X.mg "min" = none) (ha : PA2 X [a, b] tl tl2) (hc : X.calm = true := by rfl) (hv : bootBuiltins "min" = some (.builtin "min") := by decide +kernel) (he : starEach [a, b] X.env = (false, eval a X.env) :: starEach [b] X.env := by rfl) (hpl : (backTo pos (starEach [b] X.env)).any (·.1) = false := by rfl) :
    PE2 X (.Call (.Name "min" p) [a, b] [] pos) (tCB rvMin2 tl) (dCB dMin2 tl2) := e_cb (call_min2 hc) (fun xs μ Q2 q I H vs hA r Q k => by
    obtain ⟨i, j, rfl, q⟩ := q
    obtain ⟨v, w, rfl, e1, e2⟩ := r.two_inv
    cases (show v = _ from e1)
    cases (show w = _ from e2)
    exact ⟨i, j, rfl, k _ _ _ _ _ q hA Kp.refl rfl⟩) hg hm hv ha (he := he) (hpl := hpl)
/-- isinstance(x, T), T a built-in type -/
def tyD (μ : Mu) : D → Option String
  | .non => some "NoneType" | .bl _ => some "bool" | .int _ => some "int" | .str _ => some "str" | .tup _ => some "tuple" | .lst _ => some "list"
  | .adr a => match μ a with
    | some (.lst _) => some "list"
    | some (.dk _) => some "dict"
    | _ => none
  | _ => none
theorem tyD_ok {I H : Hp} {d : D} {v : V} {t : String} (hA : At K μ I H) (r : Rp K I d v) (h : tyD μ d = some t) : TyX K H v (.type t) := by
  cases d with
  | non => cases (show v = _ from r); cases h; exact .base .non
  | bl b => cases (show v = _ from r); cases h; exact .base (.bl b)
  | int i => cases (show v = _ from r); cases h; exact .base (.int i)
  | str z => cases (show v = _ from r); cases h; exact .base (.str z)
  | tup ds =>
    obtain ⟨p, vs, rfl, h1, _⟩ := r
    cases h
    rcases h1 with (h1 | ⟨o, h1⟩) | ⟨o, _, _, h1, h2, _⟩
    · exact .base (.tup (hA.sub _ _ h1))
    · exact .fTuple (hA.sub _ _ h1)
    · exact .kTuple h1 h2
  | lst ds =>
    obtain ⟨p, vs, rfl, h1, _⟩ := r
    cases h
    exact .base (.lst (hA.sub _ _ h1))
  | adr p =>
    cases (show v = _ from r)
    cases q : μ p with
    | none => simp [tyD, q] at h
    | some m =>
      obtain ⟨_, ob, ho, hr⟩ := hA.own p _ q
      cases m with
      | lst ds =>
        have e : "list" = t := by simpa [tyD, q] using h
        subst e
        obtain ⟨vs, rfl, _⟩ := hr
        exact .base (.lst ho)
      | dk kvs =>
        have e : "dict" = t := by simpa [tyD, q] using h
        subst e
        obtain ⟨vs, rfl, _⟩ := hr
        exact .base (.dK ho)
      | ins _ _ => simp [tyD, q] at h
  | ty _ => cases h
  | obj _ _ _ => cases h
  | scr _ => cases h
def dIsi : DRC := fun xs μ Q => ∃ x t c b, xs = [x, .ty c] ∧ tyD μ x = some t ∧ kitB t c = some b ∧ Q (.bl b) μ
theorem w_isi {x : D} {t c : String} {b : Bool} (h1 : tyD μ x = some t) (h2 : kitB t c = some b) (q : Q (.bl b) μ) : dIsi [x, .ty c] μ Q := ⟨x, t, c, b, rfl, h1, h2, q⟩
theorem rc_isi : RC K (rIsi K) dIsi := fun xs μ Q2 q I H vs hA r Q k => by
  obtain ⟨x, t, c, b, rfl, h1, h2, q⟩ := q
  obtain ⟨v, w, rfl, e1, e2⟩ := r.two_inv
  cases (show w = _ from e2)
  exact ⟨v, .ty c, .type t, .type c, b, rfl, .ty c, tyD_ok hA e1 h1, kit_ty h2, k _ _ _ _ _ q hA Kp.refl rfl⟩
theorem e_isi (hg : Gl X "isinstance") (hm : X.mg "isinstance" = none) (ha : PA2 X [a, b] tl tl2) (hv : bootBuiltins "isinstance" = some (.builtin "isinstance") := by decide +kernel) (he : starEach [a, b] X.env = (false, eval a X.env) :: starEach [b] X.env := by rfl) (hpl : (backTo pos (starEach [b] X.env)).any (·.1) = false := by rfl) :
    PE2 X (.Call (.Name "isinstance" p) [a, b] [] pos) (tCB (rIsi X.K) tl) (dCB dIsi tl2) := e_cb call_isi rc_isi hg hm hv ha (he := he) (hpl := hpl)
theorem isi_ii : kitB "int" "int" = some true := by decide +kernel
theorem isi_bi : kitB "bool" "int" = some true := by decide +kernel
theorem isi_si : kitB "str" "int" = some false := by decide +kernel
theorem isi_ni : kitB "NoneType" "int" = some false := by decide +kernel
theorem isi_li : kitB "list" "int" = some false := by decide +kernel
theorem isi_ti : kitB "tuple" "int" = some false := by decide +kernel
theorem isi_di : kitB "dict" "int" = some false := by decide +kernel
theorem isi_ib : kitB "int" "bool" = some false := by decide +kernel
theorem isi_bb : kitB "bool" "bool" = some true := by decide +kernel
theorem isi_sb : kitB "str" "bool" = some false := by decide +kernel
theorem isi_nb : kitB "NoneType" "bool" = some false := by decide +kernel
theorem isi_lb : kitB "list" "bool" = some false := by decide +kernel
theorem isi_tb : kitB "tuple" "bool" = some false := by decide +kernel
theorem isi_db : kitB "dict" "bool" = some false := by decide +kernel
theorem isi_is : kitB "int" "str" = some false := by decide +kernel
theorem isi_bs : kitB "bool" "str" = some false := by decide +kernel
theorem isi_ss : kitB "str" "str" = some true := by decide +kernel
theorem isi_ns : kitB "NoneType" "str" = some false := by decide +kernel
theorem isi_ls : kitB "list" "str" = some false := by decide +kernel
theorem isi_ts : kitB "tuple" "str" = some false := by decide +kernel
theorem isi_ds : kitB "dict" "str" = some false := by decide +kernel
theorem isi_il : kitB "int" "list" = some false := by decide +kernel
theorem isi_bl : kitB "bool" "list" = some false := by decide +kernel
theorem isi_sl : kitB "str" "list" = some false := by decide +kernel
theorem isi_nl : kitB "NoneType" "list" = some false := by decide +kernel
theorem isi_ll : kitB "list" "list" = some true := by decide +kernel
theorem isi_tl : kitB "tuple" "list" = some false := by decide +kernel
theorem isi_dl : kitB "dict" "list" = some false := by decide +kernel
theorem isi_it : kitB "int" "tuple" = some false := by decide +kernel
theorem isi_bt : kitB "bool" "tuple" = some false := by decide +kernel
theorem isi_st : kitB "str" "tuple" = some false := by decide +kernel
theorem isi_nt : kitB "NoneType" "tuple" = some false := by decide +kernel
theorem isi_lt : kitB "list" "tuple" = some false := by decide +kernel
theorem isi_tt : kitB "tuple" "tuple" = some true := by decide +kernel
theorem isi_dt : kitB "dict" "tuple" = some false := by decide +kernel
/-- list(x), tuple(x) -/
def dListOf : DRC := fun xs μ Q => ∃ x ds, xs = [x] ∧ asS μ x = some ds ∧ ∀ p, μ p = none → Q (.adr p) (mup μ p (.lst ds))
theorem w_listOf {x : D} {ds : List D} (h : asS μ x = some ds) (q : ∀ p, μ p = none → Q (.adr p) (mup μ p (.lst ds))) : dListOf [x] μ Q := ⟨x, ds, rfl, h, q⟩
abbrev rvListOf (K : PySem.W.Frag) : List V → Hp → VK → Prop := fun xs H Q => ∃ p ys, xs = [.ref p] ∧ (SqL K H p ys ∨ SqT K H p ys) ∧ ∀ l, H l = none → Q (.ref l) (upd H l (.lst ys))
theorem e_listOf (hg : Gl X "list") (hm : X.mg "list" = none) (ha : PA2 X [e] tl tl2) (hv : bootBuiltins "list" = some (.type "list") := by decide +kernel) (he : starEach [e] X.env = (false, eval e X.env) :: starEach [] X.env := by rfl) : PE2 X (.Call (.Name "list" p) [e] [] pos) (tCB (rvListOf X.K) tl) (dCB dListOf tl2) :=
  e_cty call_list_of (fun xs μ Q2 q I H vs hA r Q k => by
    obtain ⟨x, ds, rfl, h, q⟩ := q
    obtain ⟨v, rfl, e⟩ := r.one_inv
    obtain ⟨p, ws, rfl, h1, h2⟩ := asS_at hA e h
    exact ⟨p, ws, rfl, h1, fun l hl => k _ _ _ _ _ (q l (hA.noM hl)) (hA.got hl ⟨ws, rfl, h2⟩) (Kp.got hl) rfl⟩) hg hm hv ha (he := he)
def dTupOf : DRC := fun xs μ Q => ∃ x ds, xs = [x] ∧ asS μ x = some ds ∧ Q (.tup ds) μ
theorem w_tupOf {x : D} {ds : List D} (h : asS μ x = some ds) (q : Q (.tup ds) μ) : dTupOf [x] μ Q := ⟨x, ds, rfl, h, q⟩
abbrev rvTupOf (K : PySem.W.Frag) : List V → Hp → VK → Prop := fun xs H Q => ∃ p ys, xs = [.ref p] ∧ ((SqL K H p ys ∧ ∀ l, H l = none → Q (.ref l) (upd H l (.tup ys))) ∨ (SqT K H p ys ∧ Q (.ref p) H))
theorem e_tupOf (hg : Gl X "tuple") (hm : X.mg "tuple" = none) (ha : PA2 X [e] tl tl2) (hv : bootBuiltins "tuple" = some (.type "tuple") := by decide +kernel) (he : starEach [e] X.env = (false, eval e X.env) :: starEach [] X.env := by rfl) : PE2 X (.Call (.Name "tuple" p) [e] [] pos) (tCB (rvTupOf X.K) tl) (dCB dTupOf tl2) :=
  e_cty call_tuple_of (fun xs μ Q2 q I H vs hA r Q k => by
    obtain ⟨x, ds, rfl, h, q⟩ := q
    obtain ⟨v, rfl, e⟩ := r.one_inv
    cases x with
    | tup es =>
      cases (show some es = some ds from h)
      obtain ⟨p, ws, rfl, h1, h2⟩ := e
      exact ⟨p, ws, rfl, .inr ⟨(show Exx I H from hA.sub).sqt h1, k _ _ _ _ _ q hA Kp.refl ⟨p, ws, rfl, h1, h2⟩⟩⟩
    | lst es =>
      obtain ⟨p, ws, rfl, h1, h2⟩ := asL_at hA e h
      exact ⟨p, ws, rfl, .inl ⟨SqL.of h1, go_newT q hA h2 k⟩⟩
    | adr y =>
      obtain ⟨p, ws, rfl, h1, h2⟩ := asL_at hA e h
      exact ⟨p, ws, rfl, .inl ⟨SqL.of h1, go_newT q hA h2 k⟩⟩
    | non => cases h
    | bl _ => cases h
    | int _ => cases h
    | str _ => cases h
    | ty _ => cases h
    | obj _ _ _ => cases h
    | scr _ => cases h) hg hm hv ha (he := he)

/-! ### methods of lists and texts -/
abbrev DRM := D → List D → Mu → DK → Prop
def RM (K : PySem.W.Frag) (r : V → List V → Hp → VK → Prop) (r2 : DRM) : Prop := ∀ x xs μ Q2, r2 x xs μ Q2 → ∀ I H v vs, At K μ I H → Rp K I x v → RpA K I xs vs → ∀ Q : VK, Go K I μ H Q2 Q → r v vs H Q
/-- its type -/
def tyO (μ : Mu) (T : String) (x : D) : Prop := (T = "str" ∧ ∃ z, x = .str z) ∨ (T = "list" ∧ ∃ ds, asL μ x = some ds)
theorem tyO_ok {I H : Hp} {x : D} {v : V} {T : String} (hA : At K μ I H) (r : Rp K I x v) (h : tyO μ T x) : tyV K T v H := by
  rcases h with ⟨rfl, z, rfl⟩ | ⟨rfl, ds, h⟩
  · cases (show v = _ from r); exact rfl
  · obtain ⟨p, vs, rfl, h1, _⟩ := asL_at hA r h
    exact .inl ⟨rfl, vs, SqL.of h1⟩
def dBM0 (T : String) (r : DRM) (to : TE2) : TE2 := fun ρ μ Q => to ρ μ fun x μ1 => tyO μ1 T x ∧ r x [] μ1 Q
def dBM (T : String) (r : DRM) (to : TE2) (t : TA2) : TE2 := fun ρ μ Q => to ρ μ fun x μ1 => tyO μ1 T x ∧ t ρ μ1 fun xs μ2 => r x xs μ2 Q
def dTy (T : String) (x : D) (μ : Mu) (P : Prop) : Prop := tyO μ T x ∧ P
theorem w_tyS {z : Str} {P : Prop} (h : P) : dTy "str" (.str z) μ P := ⟨.inl ⟨rfl, z, rfl⟩, h⟩
theorem w_tyL {x : D} {ds : List D} {P : Prop} (e : asL μ x = some ds) (h : P) : dTy "list" x μ P := ⟨.inr ⟨rfl, ds, e⟩, h⟩
theorem w_bm0 {T : String} {r : DRM} (h : to2 ρ μ fun x μ1 => dTy T x μ1 (r x [] μ1 Q)) : dBM0 T r to2 ρ μ Q := h
theorem w_bm {T : String} {r : DRM} (h : to2 ρ μ fun x μ1 => dTy T x μ1 (tl2 ρ μ1 fun xs μ2 => r x xs μ2 Q)) : dBM T r to2 tl2 ρ μ Q := h
theorem e_bm0 {T id : String} {name : Str} {r : V → List V → Hp → VK → Prop} {r2 : DRM} (pa : PlainAttrs T) (slot : Slot T name id) (hty : typeOf (.builtin id) = pure (.type "method_descriptor")) (hm : MtR X id r) (hr : RM X.K r r2) (ho : PE2 X o to to2)
    (hbase : attributeBase o name X.env (eval o X.env) = eval o X.env := by rfl) (hline : (apos.endLine == cpos.line) = true := by rfl) : PE2 X (.Call (.Attribute o name apos) [] [] cpos) (tBM0 X.K T r to) (dBM0 T r2 to2) :=
  ⟨pe_bm0 pa slot hty hm ho.pe hbase hline, fun ρ μ Q2 q I σ H hA hS Q g => ho.re ρ μ _ q I σ H hA hS _ fun d μ1 v I1 H1 q1 a1 k1 r1 => ⟨tyO_ok a1 r1 q1.1, hr d [] μ1 Q2 q1.2 I1 H1 v [] a1 r1 rfl Q (g.past k1)⟩⟩
theorem e_bm {T id : String} {name : Str} {r : V → List V → Hp → VK → Prop} {r2 : DRM} (pa : PlainAttrs T) (slot : Slot T name id) (hty : typeOf (.builtin id) = pure (.type "method_descriptor")) (hm : MtR X id r) (hr : RM X.K r r2) (ho : PE2 X o to to2) (ha : PA2 X (e :: es) tl tl2)
    (hbase : attributeBase o name X.env (eval o X.env) = eval o X.env := by rfl)
    (hfew : ((backTo cpos (starEach (e :: es) X.env)).all (fun x => !x.1) && (backToKw cpos (keywordEach [] X.env)).all (fun x => x.1.isSome)
      && decide ((e :: es).length + ([] : List Keyword).length + (if ([] : List Keyword).isEmpty then 0 else 1) < 30)) = true := by rfl)
    (hline : (apos.endLine == cpos.line) = true := by rfl) (hs : starEach (e :: es) X.env = (false, eval e X.env) :: starEach es X.env := by rfl) (hplain : (backTo cpos (starEach es X.env)).any (·.1) = false := by rfl) :
    PE2 X (.Call (.Attribute o name apos) (e :: es) [] cpos) (tBM X.K T r to tl) (dBM T r2 to2 tl2) :=
  ⟨pe_bm pa slot hty hm ho.pe ha.pa hbase hfew hline hs hplain, fun ρ μ Q2 q I σ H hA hS Q g => ho.re ρ μ _ q I σ H hA hS _ fun d μ1 v I1 H1 q1 a1 k1 r1 =>
    ⟨tyO_ok a1 r1 q1.1, ha.re ρ μ1 _ q1.2 I1 σ H1 a1 (hS.mono k1.ex) _ fun ds μ2 vs I2 H2 q2 a2 k2 r2 => hr d ds μ2 Q2 q2 I2 H2 v vs a2 (r1.mono k2.ex) r2 Q (g.past (k1.trans k2))⟩⟩
/-- append, extend, clear, pop, reverse of an owned list -/
def dApp : DRM := fun x xs μ Q => ∃ p ds y, x = .adr p ∧ xs = [y] ∧ μ p = some (.lst ds) ∧ ds.length < sizeLine ∧ Q .non (mup μ p (.lst (ds ++ [y])))
theorem w_app {p : Addr} {ds : List D} {y : D} (h : μ p = some (.lst ds)) (z : ds.length < sizeLine) (q : Q .non (mup μ p (.lst (ds ++ [y])))) : dApp (.adr p) [y] μ Q := ⟨p, ds, y, rfl, rfl, h, z, q⟩
theorem rm_app : RM K rAppend dApp := fun x xs μ Q2 q I H v vs hA rx rs Q k => by
  obtain ⟨p, ds, y, rfl, rfl, h, z, q⟩ := q
  cases (show v = _ from rx)
  obtain ⟨w, rfl, rw'⟩ := rs.one_inv
  obtain ⟨_, ob, ho, us, rfl, hr⟩ := hA.own p _ h
  exact ⟨p, us, w, rfl, rfl, ho, by rw [hr.length]; exact z, k _ _ _ _ _ q (hA.put h ⟨_, rfl, hr.append (RpA.one rw')⟩) (Kp.put h) rfl⟩
def dExtend : DRM := fun x xs μ Q => ∃ p ds y es, x = .adr p ∧ xs = [y] ∧ μ p = some (.lst ds) ∧ asL μ y = some es ∧ ds.length + es.length ≤ sizeLine ∧ Q .non (mup μ p (.lst (ds ++ es)))
theorem w_extend {p : Addr} {ds es : List D} {y : D} (h : μ p = some (.lst ds)) (h' : asL μ y = some es) (z : ds.length + es.length ≤ sizeLine) (q : Q .non (mup μ p (.lst (ds ++ es)))) : dExtend (.adr p) [y] μ Q := ⟨p, ds, y, es, rfl, rfl, h, h', z, q⟩
theorem rm_extend : RM K rExtend dExtend := fun x xs μ Q2 q I H v vs hA rx rs Q k => by
  obtain ⟨p, ds, y, es, rfl, rfl, h, h', z, q⟩ := q
  cases (show v = _ from rx)
  obtain ⟨w, rfl, rw'⟩ := rs.one_inv
  obtain ⟨_, ob, ho, us, rfl, hr⟩ := hA.own p _ h
  obtain ⟨p', ws, rfl, h1, h2⟩ := asL_at hA rw' h'
  exact ⟨p, p', us, ws, rfl, rfl, ho, h1, by rw [hr.length, h2.length]; exact z, k _ _ _ _ _ q (hA.put h ⟨_, rfl, hr.append h2⟩) (Kp.put h) rfl⟩
def dClear : DRM := fun x xs μ Q => ∃ p ds, x = .adr p ∧ xs = [] ∧ μ p = some (.lst ds) ∧ Q .non (mup μ p (.lst []))
theorem w_clear {p : Addr} {ds : List D} (h : μ p = some (.lst ds)) (q : Q .non (mup μ p (.lst []))) : dClear (.adr p) [] μ Q := ⟨p, ds, rfl, rfl, h, q⟩
theorem rm_clear : RM K rClear dClear := fun x xs μ Q2 q I H v vs hA rx rs Q k => by
  obtain ⟨p, ds, rfl, rfl, h, q⟩ := q
  cases (show v = _ from rx)
  cases (show vs = _ from rs)
  obtain ⟨_, ob, ho, us, rfl, hr⟩ := hA.own p _ h
  exact ⟨p, us, rfl, rfl, ho, k _ _ _ _ _ q (hA.put h ⟨_, rfl, rfl⟩) (Kp.put h) rfl⟩
def dPop : DRM := fun x xs μ Q => ∃ p ds d, x = .adr p ∧ xs = [] ∧ μ p = some (.lst ds) ∧ ds[ds.length - 1]? = some d ∧ Q d (mup μ p (.lst ds.dropLast))
theorem w_pop {p : Addr} {ds : List D} {d : D} (h : μ p = some (.lst ds)) (e : ds[ds.length - 1]? = some d) (q : Q d (mup μ p (.lst ds.dropLast))) : dPop (.adr p) [] μ Q := ⟨p, ds, d, rfl, rfl, h, e, q⟩
theorem rm_pop : RM K rPop dPop := fun x xs μ Q2 q I H v vs hA rx rs Q k => by
  obtain ⟨p, ds, d, rfl, rfl, h, e, q⟩ := q
  cases (show v = _ from rx)
  cases (show vs = _ from rs)
  obtain ⟨_, ob, ho, us, rfl, hr⟩ := hA.own p _ h
  obtain ⟨w, e1, e2⟩ := hr.get e
  refine ⟨p, us, w, rfl, rfl, ho, by rw [hr.length]; exact e1, k _ _ _ _ _ q (hA.put h ⟨_, rfl, ?_⟩) (Kp.put h) e2⟩
  rw [List.dropLast_eq_take, List.dropLast_eq_take, hr.length]
  exact hr.take _
def dReverse : DRM := fun x xs μ Q => ∃ p ds, x = .adr p ∧ xs = [] ∧ μ p = some (.lst ds) ∧ Q .non (mup μ p (.lst ds.reverse))
theorem w_reverse {p : Addr} {ds : List D} (h : μ p = some (.lst ds)) (q : Q .non (mup μ p (.lst ds.reverse))) : dReverse (.adr p) [] μ Q := ⟨p, ds, rfl, rfl, h, q⟩
theorem rm_reverse : RM K rReverse dReverse := fun x xs μ Q2 q I H v vs hA rx rs Q k => by
  obtain ⟨p, ds, rfl, rfl, h, q⟩ := q
  cases (show v = _ from rx)
  cases (show vs = _ from rs)
  obtain ⟨_, ob, ho, us, rfl, hr⟩ := hA.own p _ h
  exact ⟨p, us, rfl, rfl, ho, k _ _ _ _ _ q (hA.put h ⟨_, rfl, hr.reverse⟩) (Kp.put h) rfl⟩
theorem MtM.toR {id : String} {r : V → List V → Hp → VK → Prop} (h : MtR X id r) : MtR X id r := h
theorem e_app (ho : PE2 X o to to2) (ha : PA2 X [e] tl tl2) (hbase : attributeBase o "append" X.env (eval o X.env) = eval o X.env := by rfl)
    (hfew : ((backTo cpos (starEach [e] X.env)).all (fun x => !x.1) && (backToKw cpos (keywordEach [] X.env)).all (fun x => x.1.isSome) && decide ([e].length + ([] : List Keyword).length + (if ([] : List Keyword).isEmpty then 0 else 1) < 30)) = true := by rfl)
    (hline : (apos.endLine == cpos.line) = true := by rfl) (hs : starEach [e] X.env = (false, eval e X.env) :: starEach [] X.env := by rfl) : PE2 X (.Call (.Attribute o "append" apos) [e] [] cpos) (tBM X.K "list" rAppend to tl) (dBM "list" dApp to2 tl2) :=
  e_bm PySem.F.plainAttrs_list PySem.F.slot_list_append PySem.F.type_list_append mt_append rm_app ho ha hbase hfew hline hs
theorem e_extend (ho : PE2 X o to to2) (ha : PA2 X [e] tl tl2) (hbase : attributeBase o "extend" X.env (eval o X.env) = eval o X.env := by rfl)
    (hfew : ((backTo cpos (starEach [e] X.env)).all (fun x => !x.1) && (backToKw cpos (keywordEach [] X.env)).all (fun x => x.1.isSome) && decide ([e].length + ([] : List Keyword).length + (if ([] : List Keyword).isEmpty then 0 else 1) < 30)) = true := by rfl)
    (hline : (apos.endLine == cpos.line) = true := by rfl) (hs : starEach [e] X.env = (false, eval e X.env) :: starEach [] X.env := by rfl) : PE2 X (.Call (.Attribute o "extend" apos) [e] [] cpos) (tBM X.K "list" rExtend to tl) (dBM "list" dExtend to2 tl2) :=
  e_bm PySem.F.plainAttrs_list PySem.F.slot_list_extend PySem.F.type_list_extend mt_extend rm_extend ho ha hbase hfew hline hs
theorem e_clear (ho : PE2 X o to to2) (hbase : attributeBase o "clear" X.env (eval o X.env) = eval o X.env := by rfl) (hline : (apos.endLine == cpos.line) = true := by rfl) : PE2 X (.Call (.Attribute o "clear" apos) [] [] cpos) (tBM0 X.K "list" rClear to) (dBM0 "list" dClear to2) :=
  e_bm0 PySem.F.plainAttrs_list PySem.F.slot_list_clear PySem.F.type_list_clear mt_clear rm_clear ho hbase hline
theorem e_pop (ho : PE2 X o to to2) (hbase : attributeBase o "pop" X.env (eval o X.env) = eval o X.env := by rfl) (hline : (apos.endLine == cpos.line) = true := by rfl) : PE2 X (.Call (.Attribute o "pop" apos) [] [] cpos) (tBM0 X.K "list" rPop to) (dBM0 "list" dPop to2) :=
  e_bm0 PySem.F.plainAttrs_list PySem.F.slot_list_pop PySem.F.type_list_pop mt_pop rm_pop ho hbase hline
theorem e_reverse (ho : PE2 X o to to2) (hbase : attributeBase o "reverse" X.env (eval o X.env) = eval o X.env := by rfl) (hline : (apos.endLine == cpos.line) = true := by rfl) : PE2 X (.Call (.Attribute o "reverse" apos) [] [] cpos) (tBM0 X.K "list" rReverse to) (dBM0 "list" dReverse to2) :=
  e_bm0 PySem.F.plainAttrs_list PySem.F.slot_list_reverse PySem.F.type_list_reverse mt_reverse rm_reverse ho hbase hline
/-- split, join -/
def dM1 (r : D → D → Mu → DK → Prop) (to te : TE2) : TE2 := fun ρ μ Q => to ρ μ fun x μ1 => dTy "str" x μ1 (te ρ μ1 fun y μ2 => r x y μ2 Q)
theorem w_m1 {r : D → D → Mu → DK → Prop} (h : to2 ρ μ fun x μ1 => dTy "str" x μ1 (te2 ρ μ1 fun y μ2 => r x y μ2 Q)) : dM1 r to2 te2 ρ μ Q := h
theorem re_m1 {r : V → List V → Hp → VK → Prop} {r2 : D → D → Mu → DK → Prop} (hr : ∀ x y μ Q2, r2 x y μ Q2 → ∀ I H v u, At K μ I H → Rp K I x v → Rp K I y u → ∀ Q : VK, Go K I μ H Q2 Q → r v [u] H Q) (ho : RE K to to2) (he : RE K te te2) : RE K (tM1 r to te) (dM1 r2 to2 te2) := fun ρ μ Q2 q I σ H hA hS Q g =>
  ho ρ μ _ q I σ H hA hS _ fun d μ1 v I1 H1 q1 a1 k1 r1 => by
    obtain ⟨h, q1⟩ := q1
    rcases h with ⟨_, z, rfl⟩ | ⟨h, _⟩
    · exact ⟨⟨z, r1⟩, he ρ μ1 _ q1 I1 σ H1 a1 (hS.mono k1.ex) _ fun y μ2 u I2 H2 q2 a2 k2 r2 => hr _ y μ2 Q2 q2 I2 H2 v u a2 (r1.mono k2.ex) r2 Q (g.past (k1.trans k2))⟩
    · exact absurd h (by decide)
def dSplit : D → D → Mu → DK → Prop := fun x y μ Q => ∃ a b, x = .str a ∧ y = .str b ∧ (b.length == 0) = false ∧ a.length + 2 ≤ sizeLine ∧ ∀ p, μ p = none → Q (.adr p) (mup μ p (.lst ((Txt.split a b).map D.str)))
theorem w_split {a b : Str} (h1 : (b.length == 0) = false) (h2 : a.length + 2 ≤ sizeLine) (q : ∀ p, μ p = none → Q (.adr p) (mup μ p (.lst ((Txt.split a b).map D.str)))) : dSplit (.str a) (.str b) μ Q := ⟨a, b, rfl, rfl, h1, h2, q⟩
abbrev rvSplit : V → List V → Hp → VK → Prop := fun x xs H Q => ∃ a b, x = .str a ∧ xs = [.str b] ∧ (b.length == 0) = false ∧ a.length + 2 ≤ sizeLine ∧ rNewStrs (Txt.split a b) H Q
theorem e_split (ho : PE2 X o to to2) (he : PE2 X e te te2) (hs : starEach [e] X.env = [(false, eval e X.env)] := by rfl) (hbase : attributeBase o "split" X.env (eval o X.env) = eval o X.env := by rfl) (hline : (apos.endLine == pos.line) = true := by rfl) :
    PE2 X (.Call (.Attribute o "split" apos) [e] [] pos) (tM1 rvSplit to te) (dM1 dSplit to2 te2) := ⟨pe_split ho.pe he.pe hs hbase hline, re_m1 (fun x y μ Q2 q I H v u hA rx ry Q k => by
    obtain ⟨a, b, rfl, rfl, h1, h2, q⟩ := q
    refine ⟨a, b, rx, by rw [show u = _ from ry], h1, h2, fun p hp => ?_⟩
    exact k _ _ _ _ _ (q p (hA.noM hp)) (hA.got hp ⟨_, rfl, RpA.strs _⟩) (Kp.got hp) rfl) ho.re he.re⟩
/-- the texts of a list -/
def strsOf : List D → Option (List Str)
  | [] => some []
  | .str x :: r => (strsOf r).map (x :: ·)
  | _ => none
theorem strsOf_ok : ∀ {ds : List D} {ys : List Str}, strsOf ds = some ys → ds = ys.map D.str
  | [], _, h => by cases h; rfl
  | .str x :: r, ys, h => by
    unfold strsOf at h
    cases q : strsOf r with
    | none => rw [q] at h; cases h
    | some zs =>
      rw [q] at h
      cases (show some (x :: zs) = some ys from h)
      rw [strsOf_ok q]; rfl
  | .non :: _, _, h => by cases h
  | .bl _ :: _, _, h => by cases h
  | .int _ :: _, _, h => by cases h
  | .ty _ :: _, _, h => by cases h
  | .adr _ :: _, _, h => by cases h
  | .tup _ :: _, _, h => by cases h
  | .lst _ :: _, _, h => by cases h
  | .obj _ _ _ :: _, _, h => by cases h
  | .scr _ :: _, _, h => by cases h
theorem strsOf_map : ∀ ys : List Str, strsOf (ys.map D.str) = some ys
  | [] => rfl
  | y :: ys => by show (strsOf (ys.map D.str)).map (y :: ·) = _; rw [strsOf_map ys]; rfl
def dJoin : D → D → Mu → DK → Prop := fun x y μ Q => ∃ a ds ys, x = .str a ∧ asS μ y = some ds ∧ strsOf ds = some ys ∧ (ys.map (·.length)).sum + ys.length * a.length ≤ 16777216 ∧ Q (.str (Txt.join a ys)) μ
theorem w_join {a : Str} {y : D} {ds : List D} {ys : List Str} (h1 : asS μ y = some ds) (h2 : strsOf ds = some ys) (z : (ys.map (·.length)).sum + ys.length * a.length ≤ 16777216) (q : Q (.str (Txt.join a ys)) μ) : dJoin (.str a) y μ Q := ⟨a, ds, ys, rfl, h1, h2, z, q⟩
abbrev rvJoin (K : PySem.W.Frag) : V → List V → Hp → VK → Prop := fun x xs H Q => ∃ a p, ∃ ys : List Str, x = .str a ∧ xs = [.ref p] ∧ (SqL K H p (ys.map V.str) ∨ SqT K H p (ys.map V.str)) ∧
      (ys.map (·.length)).sum + ys.length * a.length ≤ 16777216 ∧ Q (.str (Txt.join a ys)) H
theorem e_join (ho : PE2 X o to to2) (he : PE2 X e te te2) (hs : starEach [e] X.env = [(false, eval e X.env)] := by rfl) (hbase : attributeBase o "join" X.env (eval o X.env) = eval o X.env := by rfl) (hline : (apos.endLine == pos.line) = true := by rfl) :
    PE2 X (.Call (.Attribute o "join" apos) [e] [] pos) (tM1 (rvJoin X.K) to te) (dM1 dJoin to2 te2) := ⟨pe_join ho.pe he.pe hs hbase hline, re_m1 (fun x y μ Q2 q I H v u hA rx ry Q k => by
    obtain ⟨a, ds, ys, rfl, h1, h2, z, q⟩ := q
    obtain ⟨p, vs, rfl, h3, h4⟩ := asS_at hA ry h1
    rw [strsOf_ok h2] at h4
    rw [h4.strs_inv] at h3
    exact ⟨a, p, ys, rx, rfl, h3, z, k _ _ _ _ _ q hA Kp.refl rfl⟩) ho.re he.re⟩
end
end Y

set_option Elab.async false
set_option linter.all false
set_option maxRecDepth 100000
set_option maxHeartbeats 4000000
namespace Y
open PySem PySem.Spec PyProof.Rows L2
/-! ### less is known, more stays -/
def Sh (ρ : Env2) (μ : Mu) (ρ' : Env2) (μ' : Mu) : Prop := ∀ (K : PySem.W.Frag) (I : Hp) (σ : L2.St) (H : Hp), At K μ I H → Slots K I ρ σ → ∃ I', At K μ' I' H ∧ Slots K I' ρ' σ ∧ Kp I μ H I' μ' H
def Cl (P : Env2 → Mu → Prop) (ρ : Env2) (μ : Mu) : Prop := ∃ ρ' μ', Sh ρ μ ρ' μ' ∧ P ρ' μ'
def ShD (d : D) (μ : Mu) (d' : D) (μ' : Mu) : Prop := ∀ (K : PySem.W.Frag) (I H : Hp) (v : V), At K μ I H → Rp K I d v → ∃ I', At K μ' I' H ∧ Kp I μ H I' μ' H ∧ Rp K I' d' v
/-- at a return -/
def RtC (Q : DK) : DK := fun d μ => ∃ d' μ', ShD d μ d' μ' ∧ Q d' μ'
def Sub (μ' μ : Mu) : Prop := ∀ b m, μ' b = some m → μ b = some m
theorem Sub.refl {μ : Mu} : Sub μ μ := fun _ _ h => h
theorem Sub.trans {μ μ1 μ2 : Mu} (a : Sub μ μ1) (b : Sub μ1 μ2) : Sub μ μ2 := fun x m h => b x m (a x m h)
theorem Sub.new {μ : Mu} {p : Addr} {m : MO} (h : μ p = none) : Sub μ (mup μ p m) := fun b n e => by
  have hb : b ≠ p := fun z => by rw [z, h] at e; cases e
  rw [mup_ne hb]; exact e
theorem Sub.mup {μ μ' : Mu} {p : Addr} {m : MO} (h : Sub μ μ') : Sub (mup μ p m) (mup μ' p m) := fun b n e => by
  by_cases hb : b = p
  · subst hb; rw [mup_same] at e ⊢; exact e
  · rw [mup_ne hb] at e ⊢; exact h b n e
theorem Sub.over {μ μ' : Mu} {p : Addr} {m : MO} (h : Sub μ μ') (hp : μ p = none) : Sub μ (Y.mup μ' p m) := fun b n e => by
  have hb : b ≠ p := fun z => by rw [z, hp] at e; cases e
  rw [mup_ne hb]; exact h b n e
theorem Sh.refl {ρ : Env2} {μ : Mu} : Sh ρ μ ρ μ := fun K I σ H a s => ⟨I, a, s, Kp.refl⟩
theorem Sh.less {ρ : Env2} {μ μ' : Mu} (h : Sub μ' μ) : Sh ρ μ ρ μ' := fun K I σ H a s => ⟨I, a.less h, s, Kp.less h⟩
theorem Sh.trans {ρ ρ1 ρ2 : Env2} {μ μ1 μ2 : Mu} (a : Sh ρ μ ρ1 μ1) (b : Sh ρ1 μ1 ρ2 μ2) : Sh ρ μ ρ2 μ2 := fun K I σ H h s => by
  obtain ⟨I1, a1, s1, k1⟩ := a K I σ H h s
  obtain ⟨I2, a2, s2, k2⟩ := b K I1 σ H a1 s1
  exact ⟨I2, a2, s2, k1.trans k2⟩
/-- slots forgotten -/
def Less : Env2 → Env2 → Prop
  | [], [] => True
  | a :: r, b :: s => (b = none ∨ a = b) ∧ Less r s
  | _, _ => False
theorem Less.length : ∀ {ρ ρ' : Env2}, Less ρ ρ' → ρ'.length = ρ.length
  | [], [], _ => rfl
  | _ :: _, _ :: _, h => by show _ + 1 = _ + 1; rw [Less.length h.2]
  | [], _ :: _, h => h.elim
  | _ :: _, [], h => h.elim
theorem Less.get : ∀ {ρ ρ' : Env2} {i : Nat} {d : D}, Less ρ ρ' → ρ'[i]? = some (some d) → ρ[i]? = some (some d)
  | [], [], _, _, _, e => by simp at e
  | a :: _, b :: _, 0, d, h, e => by
    have e' : b = some d := by simpa using e
    rcases h.1 with z | z
    · rw [z] at e'; cases e'
    · simp [z, e']
  | _ :: _, _ :: _, i + 1, d, h, e => by simpa using Less.get h.2 (i := i) (d := d) (by simpa using e)
  | [], _ :: _, _, _, h, _ => h.elim
  | _ :: _, [], _, _, h, _ => h.elim
theorem Sh.forget {ρ ρ' : Env2} {μ : Mu} (h : Less ρ ρ') : Sh ρ μ ρ' μ := fun K I σ H a s => ⟨I, a, ⟨h.length.trans s.1, fun i d e => s.2 i d (h.get e)⟩, Kp.refl⟩
/-- an owned list that a slot holds stays from now on -/
theorem Sh.frz {ρ : Env2} {μ : Mu} {p : Addr} {ds : List D} (i : Nat) (h : μ p = some (.lst ds)) (hi : ρ[i]? = some (some (.adr p))) : Sh ρ μ (ρ.set i (some (.lst ds))) (mdel μ p) := fun K I σ H a s => by
  obtain ⟨hI, ob, ho, vs, rfl, hr⟩ := a.own p _ h
  obtain ⟨v, e1, e2⟩ := s.2 i _ hi
  refine ⟨_, a.frz h ho, ?_, Kp.frz h hI⟩
  have s' := Slots.set (v := v) i (s.mono (Exx.new hI)) (show Rp K (upd I p (.lst vs)) (.lst ds) v from ⟨p, vs, e2, upd_same, hr.mono (Exx.new hI)⟩)
  have e : σ.set i (some v) = σ := by
    apply List.ext_getElem?
    intro j
    by_cases hj : i = j
    · subst hj; rw [e1, List.getElem?_set_self (List.getElem?_eq_some_iff.mp e1).1]
    · rw [List.getElem?_set_ne hj]
  rw [e] at s'; exact s'
theorem Cl.same {P : Env2 → Mu → Prop} {ρ : Env2} {μ : Mu} (h : P ρ μ) : Cl P ρ μ := ⟨ρ, μ, Sh.refl, h⟩
theorem Cl.at {P : Env2 → Mu → Prop} {ρ ρ' : Env2} {μ μ' : Mu} (l : Less ρ ρ') (s : Sub μ' μ) (h : P ρ' μ') : Cl P ρ μ := ⟨ρ', μ', (Sh.forget l).trans (Sh.less s), h⟩
theorem Cl.less {P : Env2 → Mu → Prop} {ρ : Env2} {μ μ' : Mu} (s : Sub μ' μ) (h : P ρ μ') : Cl P ρ μ := ⟨ρ, μ', Sh.less s, h⟩
theorem Cl.frz {P : Env2 → Mu → Prop} {ρ : Env2} {μ : Mu} {p : Addr} {ds : List D} (i : Nat) (h : μ p = some (.lst ds)) (hi : ρ[i]? = some (some (.adr p))) (q : P (ρ.set i (some (.lst ds))) (mdel μ p)) : Cl P ρ μ := ⟨_, _, Sh.frz i h hi, q⟩
theorem RtC.same {Q : DK} {d : D} {μ : Mu} (h : Q d μ) : RtC Q d μ := ⟨d, μ, fun K I H v a r => ⟨I, a, Kp.refl, r⟩, h⟩
theorem RtC.less {Q : DK} {d : D} {μ μ' : Mu} (s : Sub μ' μ) (h : Q d μ') : RtC Q d μ := ⟨d, μ', fun K I H v a r => ⟨I, a.less s, Kp.less s, r⟩, h⟩
theorem RtC.frz {Q : DK} {p : Addr} {ds : List D} {μ μ' : Mu} (hp : μ p = some (.lst ds)) (s : Sub μ' (mdel μ p)) (h : Q (.lst ds) μ') : RtC Q (.adr p) μ := ⟨_, μ', fun K I H v a r => by
  obtain ⟨hI, ob, ho, vs, rfl, hr⟩ := a.own p _ hp
  exact ⟨_, (a.frz hp ho).less s, (Kp.frz hp hI).trans (Kp.less s), ⟨p, vs, r, upd_same, hr.mono (Exx.new hI)⟩⟩, h⟩
section
variable {X : Cx} {K : PySem.W.Frag} {a b c e o : Expr} {es rest : List Expr} {ta tb tc te to : TE} {ta2 tb2 tc2 te2 to2 : TE2} {pos apos cpos p : Pos} {tt tu : TT} {tt2 tu2 : TT2} {tl : TA} {tl2 : TA2} {x : Str}
variable {ρ : Env2} {μ : Mu} {Q : DK} {T F : Mu → Prop} {st : Stmt} {sts sts' : List Stmt} {ts tz : TS} {ts2 tz2 : TS2} {D2 : Ends2}
theorem Slots.less {I : Hp} {σ : L2.St} (h : Slots K I ρ σ) {ρ' : Env2} (l : Less ρ ρ') : Slots K I ρ' σ := ⟨l.length.trans h.1, fun i d e => h.2 i d (l.get e)⟩

/-! ### targets -/
abbrev TG2 := D → Env2 → Mu → (Env2 → Mu → Prop) → Prop
abbrev TGs2 := List D → Env2 → Mu → (Env2 → Mu → Prop) → Prop
def RG (K : PySem.W.Frag) (g : TG) (g2 : TG2) : Prop := ∀ d ρ μ Q2, g2 d ρ μ Q2 → ∀ I σ H v, At K μ I H → Slots K I ρ σ → Rp K I d v → ∀ Q : L2.St → Hp → Prop, GoE K I μ H Q2 Q → g v σ H Q
def RGs (K : PySem.W.Frag) (g : TGs) (g2 : TGs2) : Prop := ∀ ds ρ μ Q2, g2 ds ρ μ Q2 → ∀ I σ H vs, At K μ I H → Slots K I ρ σ → RpA K I ds vs → ∀ Q : L2.St → Hp → Prop, GoE K I μ H Q2 Q → g vs σ H Q
/-- it changes these slots alone; it is monotone -/
def OnlyG (g : TG) (js : List Nat) : Prop := ∀ v σ H (Q Q' : L2.St → Hp → Prop), (∀ σ2 H2, σ2.length = σ.length → (∀ i, i ∉ js → σ2[i]? = σ[i]?) → Q σ2 H2 → Q' σ2 H2) → g v σ H Q → g v σ H Q'
def OnlyGs (g : TGs) (js : List Nat) : Prop := ∀ v σ H (Q Q' : L2.St → Hp → Prop), (∀ σ2 H2, σ2.length = σ.length → (∀ i, i ∉ js → σ2[i]? = σ[i]?) → Q σ2 H2 → Q' σ2 H2) → g v σ H Q → g v σ H Q'
structure PG2 (X : Cx) (t : Expr) (g : TG) (g2 : TG2) (js : List Nat) : Prop where
  pg : PG X t g
  re : RG X.K g g2
  only : OnlyG g js
structure PGs2 (X : Cx) (ts : List Expr) (g : TGs) (g2 : TGs2) (js : List Nat) : Prop where
  pg : PGs X ts g
  re : RGs X.K g g2
  only : OnlyGs g js
def gN (i : Nat) : TG2 := fun d ρ μ Q => Q (ρ.set i (some d)) μ
theorem w_gN {i : Nat} {d : D} {QE : Env2 → Mu → Prop} (q : QE (ρ.set i (some d)) μ) : gN i d ρ μ QE := q
theorem re_gN (i : Nat) : RG K (gName i) (gN i) := fun d ρ μ Q2 q I σ H v hA hS r Q k => k _ _ _ _ _ q hA (hS.set i r) Kp.refl
theorem only_gN (i : Nat) : OnlyG (gName i) [i] := fun v σ H Q Q' h q => h _ _ List.length_set (fun j hj => List.getElem?_set_ne (by simpa using (fun z : i = j => hj (by simp [z])))) q
theorem g_nm {i : Nat} (h : PG X e (gName i)) : PG2 X e (gName i) (gN i) [i] := ⟨h, re_gN i, only_gN i⟩
def gNil2 : TGs2 := fun ds ρ μ Q => ds = [] ∧ Q ρ μ
def gCons2 (t : TG2) (u : TGs2) : TGs2 := fun ds ρ μ Q => ∃ d r, ds = d :: r ∧ t d ρ μ fun ρ1 μ1 => u r ρ1 μ1 Q
theorem w_gNil {QE : Env2 → Mu → Prop} (q : QE ρ μ) : gNil2 [] ρ μ QE := ⟨rfl, q⟩
theorem w_gCons {t : TG2} {u : TGs2} {d : D} {r : List D} {QE : Env2 → Mu → Prop} (h : t d ρ μ fun ρ1 μ1 => u r ρ1 μ1 QE) : gCons2 t u (d :: r) ρ μ QE := ⟨d, r, rfl, h⟩
theorem gs_nil : PGs2 X [] gNil gNil2 [] := ⟨pgs_nil, fun ds ρ μ Q2 q I σ H vs hA hS r Q k => by
  obtain ⟨rfl, q⟩ := q
  exact ⟨r, k _ _ _ _ _ q hA hS Kp.refl⟩, fun v σ H Q Q' h q => ⟨q.1, h _ _ rfl (fun _ _ => rfl) q.2⟩⟩
theorem gs_cons {t : TG} {t2 : TG2} {u : TGs} {u2 : TGs2} {is js : List Nat} (h1 : PG2 X e t t2 is) (h2 : PGs2 X es u u2 js) (hs : (assignEach (e :: es) X.env).map (·.2) = assign e X.env :: (assignEach es X.env).map (·.2) := by rfl) : PGs2 X (e :: es) (gCons t u) (gCons2 t2 u2) (is ++ js) :=
  ⟨pgs_cons h1.pg h2.pg hs, fun ds ρ μ Q2 q I σ H vs hA hS r Q k => by
    obtain ⟨d, w, rfl, q⟩ := q
    obtain ⟨v, vr, rfl, r1, r2⟩ := r
    exact ⟨v, vr, rfl, h1.re d ρ μ _ q I σ H v hA hS r1 _ fun ρ1 μ1 σ1 I1 H1 q1 a1 s1 k1 => h2.re w ρ1 μ1 Q2 q1 I1 σ1 H1 vr a1 s1 (r2.mono k1.ex) Q (k.past k1)⟩,
   fun v σ H Q Q' h q => by
    obtain ⟨x, r, rfl, q⟩ := q
    refine ⟨x, r, rfl, h1.only x σ H _ _ (fun σ1 H1 l1 n1 z => ?_) q⟩
    refine h2.only r σ1 H1 _ _ (fun σ2 H2 l2 n2 z => h σ2 H2 (l2.trans l1) (fun i hi => ?_) z) z
    rw [List.mem_append, not_or] at hi
    rw [n2 i hi.2, n1 i hi.1]⟩
/-- a, b = a tuple or a list -/
def gUn (n : Nat) (t : TGs2) : TG2 := fun d ρ μ Q => ∃ ds, asS μ d = some ds ∧ ds.length = n ∧ t ds ρ μ Q
theorem w_gUn {n : Nat} {t : TGs2} {d : D} {ds : List D} {QE : Env2 → Mu → Prop} (h : asS μ d = some ds) (l : ds.length = n) (q : t ds ρ μ QE) : gUn n t d ρ μ QE := ⟨ds, h, l, q⟩
theorem w_gUnT {n : Nat} {t : TGs2} {ds : List D} {QE : Env2 → Mu → Prop} (l : ds.length = n) (q : t ds ρ μ QE) : gUn n t (.tup ds) ρ μ QE := ⟨ds, rfl, l, q⟩
def gOr (g h : TG) : TG := fun v σ H Q => g v σ H Q ∨ h v σ H Q
theorem pg_or {g h : TG} (h1 : PG X e g) (h2 : PG X e h) : PG X e (gOr g h) := ⟨fun pins s σ H v u Q I r q => q.elim (h1.run pins s σ H v u Q I r) (h2.run pins s σ H v u Q I r)⟩
theorem g_un {k : Nat} {t : TGs} {t2 : TGs2} {js : List Nat} {n : Nat} (hc : X.calm = true) (h : PGs2 X es t t2 js) (hn : (assignEach es X.env).length = n := by rfl) (hst : (assignEach es X.env).findIdx? (·.1) = none := by rfl) :
    PG2 X (.Tuple es k pos) (gOr (gTup X.K n t) (gUnl X.K n t)) (gUn n t2) js := ⟨pg_or (pg_tup hc h.pg hn hst) (pg_unl hc h.pg hn hst), fun d ρ μ Q2 q I σ H v hA hS r Q k => by
    obtain ⟨ds, e, l, q⟩ := q
    obtain ⟨p, vs, rfl, h1, h2⟩ := asS_at hA r e
    have fin := h.re ds ρ μ Q2 q I σ H vs hA hS h2 Q k
    rcases h1 with h1 | h1
    · exact .inr ⟨p, vs, rfl, h1, h2.length.trans l, fin⟩
    · exact .inl ⟨p, vs, rfl, h1, h2.length.trans l, fin⟩,
   fun v σ H Q Q' hh q => by
    rcases q with ⟨p, xs, e, h1, h2, q⟩ | ⟨p, xs, e, h1, h2, q⟩
    · exact .inl ⟨p, xs, e, h1, h2, h.only xs σ H Q Q' hh q⟩
    · exact .inr ⟨p, xs, e, h1, h2, h.only xs σ H Q Q' hh q⟩⟩

/-! ### statements -/
def dNext : TS2 := fun D ρ μ => D.nx ρ μ
def dSeq (t u : TS2) : TS2 := fun D ρ μ => t { D with nx := u D } ρ μ
def dSeqC (t u : TS2) : TS2 := fun D ρ μ => t { D with nx := Cl (u D) } ρ μ
theorem w_next {n b c : Env2 → Mu → Prop} {r : DK} (h : n ρ μ) : dNext ⟨n, r, b, c⟩ ρ μ := h
theorem w_seq {n b c : Env2 → Mu → Prop} {r : DK} (h : ts2 ⟨tz2 ⟨n, r, b, c⟩, r, b, c⟩ ρ μ) : dSeq ts2 tz2 ⟨n, r, b, c⟩ ρ μ := h
theorem w_seqC {n b c : Env2 → Mu → Prop} {r : DK} (h : ts2 ⟨Cl (tz2 ⟨n, r, b, c⟩), r, b, c⟩ ρ μ) : dSeqC ts2 tz2 ⟨n, r, b, c⟩ ρ μ := h
theorem b_nil : PSs2 X [] tNext dNext := ⟨pss_nil, fun D2 ρ μ q I σ H hA hS D g => g.nx ρ μ σ I H q hA hS Kp.refl⟩
theorem b_one (h : PS2 X st ts ts2) : PSs2 X [st] ts ts2 := ⟨pss_one h.ps, h.re⟩
theorem b_cons (h : PS2 X st ts ts2) (h' : PSs2 X sts tz tz2) : PSs2 X (st :: sts) (tSeq ts tz) (dSeq ts2 tz2) :=
  ⟨pss_cons h.ps h'.ps, fun D2 ρ μ q I σ H hA hS D g => h.re _ ρ μ q I σ H hA hS _ ⟨fun ρ1 μ1 σ1 I1 H1 q1 a1 s1 k1 => h'.re D2 ρ1 μ1 q1 I1 σ1 H1 a1 s1 D (g.past k1), g.rt, g.bk, g.ct⟩⟩
/-- .. with a place to forget, to keep -/
theorem b_consC (h : PS2 X st ts ts2) (h' : PSs2 X sts tz tz2) : PSs2 X (st :: sts) (tSeq ts tz) (dSeqC ts2 tz2) :=
  ⟨pss_cons h.ps h'.ps, fun D2 ρ μ q I σ H hA hS D g => h.re _ ρ μ q I σ H hA hS _ ⟨fun ρ1 μ1 σ1 I1 H1 q1 a1 s1 k1 => by
    obtain ⟨ρ2, μ2, sh, q2⟩ := q1
    obtain ⟨I2, a2, s2, k2⟩ := sh X.K I1 σ1 H1 a1 s1
    exact h'.re D2 ρ2 μ2 q2 I2 σ1 H1 a2 s2 D (g.past (k1.trans k2)), g.rt, g.bk, g.ct⟩⟩
theorem s_pass : PS2 X (.Pass pos) tNext dNext := ⟨ps_pass, b_nil.re⟩
def dBreak : TS2 := fun D ρ μ => D.bk ρ μ
def dCont : TS2 := fun D ρ μ => D.ct ρ μ
theorem w_break {n b c : Env2 → Mu → Prop} {r : DK} (h : b ρ μ) : dBreak ⟨n, r, b, c⟩ ρ μ := h
theorem w_cont {n b c : Env2 → Mu → Prop} {r : DK} (h : c ρ μ) : dCont ⟨n, r, b, c⟩ ρ μ := h
theorem s_break : PS2 X (.Break pos) tBreak dBreak := ⟨ps_break, fun D2 ρ μ q I σ H hA hS D g => g.bk ρ μ σ I H q hA hS Kp.refl⟩
theorem s_continue : PS2 X (.Continue pos) tCont dCont := ⟨ps_continue, fun D2 ρ μ q I σ H hA hS D g => g.ct ρ μ σ I H q hA hS Kp.refl⟩
theorem s_doc {z j pos'} : PS2 X (.Expr (.Constant (.str z) j pos') pos) tNext dNext := ⟨ps_doc, b_nil.re⟩
def dDrop (t : TE2) : TS2 := fun D ρ μ => t ρ μ fun _ μ1 => D.nx ρ μ1
theorem w_drop {n b c : Env2 → Mu → Prop} {r : DK} (h : te2 ρ μ fun _ μ1 => n ρ μ1) : dDrop te2 ⟨n, r, b, c⟩ ρ μ := h
theorem s_expr (h : PE2 X e te te2) (hs : swapsWith e none pos.line X.env = pure false := by rfl) : PS2 X (.Expr e pos) (tDrop te) (dDrop te2) :=
  ⟨ps_expr h.pe hs, fun D2 ρ μ q I σ H hA hS D g => h.re ρ μ _ q I σ H hA hS _ fun d μ1 v I1 H1 q1 a1 k1 r1 => g.nx ρ μ1 σ I1 H1 q1 a1 (hS.mono k1.ex) k1⟩
def dRet (t : TE2) : TS2 := fun D ρ μ => t ρ μ D.rt
theorem w_ret {n b c : Env2 → Mu → Prop} {r : DK} (h : te2 ρ μ r) : dRet te2 ⟨n, r, b, c⟩ ρ μ := h
theorem s_ret (h : PE2 X e te te2) : PS2 X (.Return (some e) pos) (tRet te) (dRet te2) := ⟨ps_ret h.pe, fun D2 ρ μ q I σ H hA hS D g => h.re ρ μ _ q I σ H hA hS _ g.rt⟩
def dRetN : TS2 := fun D _ μ => D.rt .non μ
theorem w_retN {n b c : Env2 → Mu → Prop} {r : DK} (h : r .non μ) : dRetN ⟨n, r, b, c⟩ ρ μ := h
theorem s_retN : PS2 X (.Return none pos) tRetN dRetN := ⟨ps_retN, fun D2 ρ μ q I σ H hA hS D g => g.rt .non μ .non I H q hA Kp.refl rfl⟩
def dIfS (c : TT2) (t u : TS2) : TS2 := fun D ρ μ => c ρ μ (fun μ1 => t D ρ μ1) (fun μ1 => u D ρ μ1)
theorem w_ifS (h : tt2 ρ μ (fun μ1 => ts2 D2 ρ μ1) (fun μ1 => tz2 D2 ρ μ1)) : dIfS tt2 ts2 tz2 D2 ρ μ := h
theorem s_if (hc : PT2 X c tt tt2) (ha : PSs2 X sts ts ts2) (hb : PSs2 X sts' tz tz2) : PS2 X (.If c sts sts' pos) (tIfS tt ts tz) (dIfS tt2 ts2 tz2) :=
  ⟨ps_if hc.pt ha.ps hb.ps, fun D2 ρ μ q I σ H hA hS D g => hc.re ρ μ _ _ q I σ H hA hS _
    (fun μ1 I1 H1 q1 a1 k1 => by
      show ts D σ H1
      exact ha.re D2 ρ μ1 q1 I1 σ H1 a1 (hS.mono k1.ex) D (g.past k1))
    (fun μ1 I1 H1 q1 a1 k1 => by
      show tz D σ H1
      exact hb.re D2 ρ μ1 q1 I1 σ H1 a1 (hS.mono k1.ex) D (g.past k1))⟩
/-- code that is never come to -/
theorem s_never : PS2 X st tNever (fun _ _ _ => False) := ⟨ps_never, fun D2 ρ μ q => q.elim⟩
theorem b_never : PSs2 X sts tNever (fun _ _ _ => False) := ⟨pss_never, fun D2 ρ μ q => q.elim⟩
def dAsg (t : TE2) (g : TG2) : TS2 := fun D ρ μ => t ρ μ fun d μ1 => g d ρ μ1 D.nx
theorem w_asg {g : TG2} {n b c : Env2 → Mu → Prop} {r : DK} (h : te2 ρ μ fun d μ1 => g d ρ μ1 n) : dAsg te2 g ⟨n, r, b, c⟩ ρ μ := h
theorem re_asg {g : TG} {g2 : TG2} (h : RE K te te2) (hg : RG K g g2) : RS K (tAsg te g) (dAsg te2 g2) := fun D2 ρ μ q I σ H hA hS D k =>
  h ρ μ _ q I σ H hA hS _ fun d μ1 v I1 H1 q1 a1 k1 r1 => hg d ρ μ1 _ q1 I1 σ H1 v a1 (hS.mono k1.ex) r1 _ (k.nx.past k1)
theorem s_set {i : Nat} {pos' : Pos} (h : PE2 X e te te2) (hN : X.N.Nodup) (hi : X.N[i]? = some x) (hx : Loc X.env.scope x) (hs : swapsWith e (some (.Name x pos')) pos.line X.env = pure false := by rfl) (hf : X.fn x = true ∨ X.env.scope.names.lookup x = some .local := by first | exact .inl rfl | exact .inr rfl | assumption) :
    PS2 X (.Assign [.Name x pos'] e pos) (tAsg te (gName i)) (dAsg te2 (gN i)) := ⟨ps_set hN hi hx h.pe hs hf, re_asg h.re (re_gN i)⟩
theorem s_asg {tg : Expr} {g : TG} {g2 : TG2} {js : List Nat} (h : PE2 X e te te2) (hg : PG2 X tg g g2 js) (hs : swapsWithSole [tg] e pos.line X.env = pure false := by rfl) (hw : swappedStores [tg] e X.env = pure none := by rfl)
    (h1 : (assignEach [tg] X.env).map (·.2) = [assign tg X.env] := by rfl) : PS2 X (.Assign [tg] e pos) (tAsg te g) (dAsg te2 g2) := ⟨ps_asg h.pe hg.pg hs hw h1, re_asg h.re hg.re⟩
/-- o[i] = e of an owned list -/
def gIx (to ti : TE2) : TG2 := fun d ρ μ Q => to ρ μ fun o μ1 => ti ρ μ1 fun i μ2 => ∃ p ds k j, o = .adr p ∧ i = .int k ∧ μ2 p = some (.lst ds) ∧ ixN ds.length k = some j ∧ Q ρ (mup μ2 p (.lst (ds.set j d)))
def gIxK (d : D) (ρ : Env2) (Q : Env2 → Mu → Prop) (o i : D) (μ2 : Mu) : Prop := ∃ p ds k j, o = .adr p ∧ i = .int k ∧ μ2 p = some (.lst ds) ∧ ixN ds.length k = some j ∧ Q ρ (mup μ2 p (.lst (ds.set j d)))
theorem w_gIx {ti : TE2} {d : D} {QE : Env2 → Mu → Prop} (h : to2 ρ μ fun o μ1 => ti ρ μ1 fun i μ2 => gIxK d ρ QE o i μ2) : gIx to2 ti d ρ μ QE := h
theorem w_gIxK {d : D} {QE : Env2 → Mu → Prop} {p : Addr} {ds : List D} {k : Int} {j : Nat} (h : μ p = some (.lst ds)) (e : ixN ds.length k = some j) (q : QE ρ (mup μ p (.lst (ds.set j d)))) : gIxK d ρ QE (.adr p) (.int k) μ := ⟨p, ds, k, j, rfl, rfl, h, e, q⟩
theorem re_gIx {ti : TE} {ti2 : TE2} (ho : RE K to to2) (hi : RE K ti ti2) : RG K (gSub to ti rSetL) (gIx to2 ti2) := fun d ρ μ Q2 q I σ H v hA hS r Q k =>
  ho ρ μ _ q I σ H hA hS _ fun o μ1 vo I1 H1 q1 a1 k1 r1 => hi ρ μ1 _ q1 I1 σ H1 a1 (hS.mono k1.ex) _ fun i μ2 vi I2 H2 q2 a2 k2 r2 => by
    obtain ⟨p, ds, n, j, rfl, rfl, h, e, q2⟩ := q2
    cases (show vo = _ from r1)
    obtain ⟨_, ob, hh, vs, rfl, hr⟩ := a2.own p _ h
    refine ⟨p, vs, n, j, rfl, r2, hh, by rw [hr.length]; exact e, ?_⟩
    exact k _ _ _ _ _ q2 (a2.put h ⟨_, rfl, hr.set j (r.mono (k1.trans k2).ex)⟩) (hS.mono (k1.trans k2).ex) ((k1.trans k2).trans (Kp.put h))
theorem s_setIx {i : Expr} {ti : TE} {ti2 : TE2} {pos' : Pos} (h : PE2 X e te te2) (ho : PE2 X o to to2) (hi : PE2 X i ti ti2) (hs : swapsWithSole [.Subscript o i pos'] e pos.line X.env = pure false := by rfl) (hw : swappedStores [.Subscript o i pos'] e X.env = pure none := by rfl)
    (h1 : (assignEach [.Subscript o i pos'] X.env).map (·.2) = [assign (.Subscript o i pos') X.env] := by rfl)
    (ha : ∀ v, assign (.Subscript o i pos') X.env v = (do
      let ov ← holding [v] (eval o X.env)
      let iv ← holding [v, ov] (eval i X.env)
      standAt pos'
      holding [v, ov, iv] (setItem ov iv v)
      release [v, ov, iv] []) := by intro _; rfl) : PS2 X (.Assign [.Subscript o i pos'] e pos) (tAsg te (gSub to ti rSetL)) (dAsg te2 (gIx to2 ti2)) :=
  ⟨ps_asg h.pe (pg_sub ho.pe hi.pe set_list ha) hs hw h1, re_asg h.re (re_gIx ho.re hi.re)⟩

/-! ### while -/
def dWhile (c : TT2) (tb : TS2) : TS2 := fun D ρ μ => ∃ W : Nat → Env2 → Mu → Prop, (∃ m, Cl (W m) ρ μ) ∧ ∀ m ρ μ, W m ρ μ →
  c ρ μ (fun μ1 => tb { D with nx := Cl (fun ρ μ => ∃ m', m' < m ∧ W m' ρ μ), ct := Cl (fun ρ μ => ∃ m', m' < m ∧ W m' ρ μ), bk := D.nx } ρ μ1) (fun μ1 => D.nx ρ μ1)
theorem w_while {n b c : Env2 → Mu → Prop} {r : DK} (W : Nat → Env2 → Mu → Prop) (m : Nat) (h : Cl (W m) ρ μ) (hs : ∀ m ρ μ, W m ρ μ →
  tt2 ρ μ (fun μ1 => ts2 ⟨Cl (fun ρ μ => ∃ m', m' < m ∧ W m' ρ μ), r, n, Cl (fun ρ μ => ∃ m', m' < m ∧ W m' ρ μ)⟩ ρ μ1) (fun μ1 => n ρ μ1)) : dWhile tt2 ts2 ⟨n, r, b, c⟩ ρ μ := ⟨W, ⟨m, h⟩, hs⟩
theorem s_while (hp : PassesOwn (model X.prog X.w) X.A X.env X.xe) (hc : PT2 X c tt tt2) (hb : PSs2 X sts ts ts2) : PS2 X (.While c sts [] pos) (tWhile tt ts) (dWhile tt2 ts2) :=
  ⟨ps_while hp hc.pt hb.ps, fun D2 ρ μ q I σ H hA hS D g => by
    obtain ⟨W, ⟨m0, ρ0, μ0, sh, w0⟩, step⟩ := q
    obtain ⟨I0, a0, s0, k0⟩ := sh X.K I σ H hA hS
    refine ⟨fun m σ' H' => ∃ ρ' μ' I', W m ρ' μ' ∧ At X.K μ' I' H' ∧ Slots X.K I' ρ' σ' ∧ Kp I μ H I' μ' H', ⟨m0, ρ0, μ0, I0, w0, a0, s0, k0⟩, ?_⟩
    rintro m σ' H' ⟨ρ', μ', I', w, a', s', k'⟩
    refine hc.re ρ' μ' _ _ (step m ρ' μ' w) I' σ' H' a' s' _ (fun μ1 I1 H1 q1 a1 k1 => ?_) (fun μ1 I1 H1 q1 a1 k1 => ?_)
    · show ∃ N : L2.St → Hp → Prop, _
      refine ⟨fun σ2 H2 => ∃ m', m' < m ∧ ∃ ρ' μ' I', W m' ρ' μ' ∧ At X.K μ' I' H2 ∧ Slots X.K I' ρ' σ2 ∧ Kp I μ H I' μ' H2, fun σ2 H2 n => n, ?_⟩
      have kk := k'.trans k1
      refine hb.re _ ρ' μ1 q1 I1 σ' H1 a1 (s'.mono k1.ex) _ ⟨?_, g.rt.past kk, g.nx.past kk, ?_⟩
      · rintro ρ2 μ2 σ2 I2 H2 ⟨ρ3, μ3, sh3, m', hm, w3⟩ a2 s2 k2
        obtain ⟨I3, a3, s3, k3⟩ := sh3 X.K I2 σ2 H2 a2 s2
        exact ⟨m', hm, ρ3, μ3, I3, w3, a3, s3, (kk.trans k2).trans k3⟩
      · rintro ρ2 μ2 σ2 I2 H2 ⟨ρ3, μ3, sh3, m', hm, w3⟩ a2 s2 k2
        obtain ⟨I3, a3, s3, k3⟩ := sh3 X.K I2 σ2 H2 a2 s2
        exact ⟨m', hm, ρ3, μ3, I3, w3, a3, s3, (kk.trans k2).trans k3⟩
    · show D.nx σ' H1
      exact g.nx ρ' μ1 σ' I1 H1 q1 a1 (s'.mono k1.ex) (k'.trans k1)⟩

/-! ### what is walked -/
/-- items xs, while G stands -/
def ItD (K : PySem.W.Frag) (J : It) (xs : List D) (G : Mu → Prop) (I0 : Hp) : Prop := ∀ (i : Nat) (I : Hp) (μ : Mu) (H : Hp), Exx I0 I → At K μ I H → G μ →
  (i < xs.length → J.go i H ∧ ∀ v H', J.yld i H v H' → ∃ d I', xs[i]? = some d ∧ At K μ I' H' ∧ Kp I μ H I' μ H' ∧ Rp K I' d v) ∧ (xs.length ≤ i → J.stop i H)
abbrev TI2 := Env2 → Mu → (List D → (Mu → Prop) → Mu → Prop) → Prop
def RI (K : PySem.W.Frag) (wi : TI) (t : TI2) : Prop := ∀ ρ μ R2, t ρ μ R2 → ∀ I σ H, At K μ I H → Slots K I ρ σ → ∀ R : It → Hp → Prop,
  (∀ J xs G μ' I' H', R2 xs G μ' → At K μ' I' H' → Kp I μ H I' μ' H' → ItD K J xs G I' → R J H') → wi σ H R
structure PI2 (X : Cx) (tg iter : Expr) (wi : TI) (t : TI2) : Prop where
  pi : PI X tg iter wi
  re : RI X.K wi t
/-- the turns, one by one -/
def dTurns (G : Mu → Prop) (g : TG2) (tb : TS2) (E : Ends2) : List D → Env2 → Mu → Prop
  | [], ρ, μ => G μ ∧ E.nx ρ μ
  | x :: xs, ρ, μ => G μ ∧ g x ρ μ fun ρ2 μ2 => tb { E with nx := Cl (dTurns G g tb E xs), ct := Cl (dTurns G g tb E xs), bk := E.nx } ρ2 μ2
def dFor (wi : TI2) (g : TG2) (tb : TS2) : TS2 := fun D ρ μ => wi ρ μ fun xs G μ1 => Cl (dTurns G g tb D xs) ρ μ1
theorem w_for {wi : TI2} {g : TG2} (h : wi ρ μ fun xs G μ1 => Cl (dTurns G g ts2 D2 xs) ρ μ1) : dFor wi g ts2 D2 ρ μ := h
theorem w_turn0 {G : Mu → Prop} {g : TG2} {n b c : Env2 → Mu → Prop} {r : DK} (h : G μ) (q : n ρ μ) : dTurns G g ts2 ⟨n, r, b, c⟩ [] ρ μ := ⟨h, q⟩
theorem w_turn {G : Mu → Prop} {g : TG2} {d : D} {xs : List D} {n b c : Env2 → Mu → Prop} {r : DK} (h : G μ) (q : g d ρ μ fun ρ2 μ2 => ts2 ⟨Cl (dTurns G g ts2 ⟨n, r, b, c⟩ xs), r, n, Cl (dTurns G g ts2 ⟨n, r, b, c⟩ xs)⟩ ρ2 μ2) : dTurns G g ts2 ⟨n, r, b, c⟩ (d :: xs) ρ μ := ⟨h, q⟩
/-- by what holds between the turns: of the items that are left -/
theorem w_turns {G : Mu → Prop} {g : TG2} {n b c : Env2 → Mu → Prop} {r : DK} (Iv : List D → Env2 → Mu → Prop) (hG : ∀ xs ρ μ, Iv xs ρ μ → G μ)
    (hs : ∀ d xs ρ μ, Iv (d :: xs) ρ μ → ∀ N : Env2 → Mu → Prop, (∀ ρ μ, Iv xs ρ μ → N ρ μ) → g d ρ μ fun ρ2 μ2 => ts2 ⟨Cl N, r, n, Cl N⟩ ρ2 μ2) (hd : ∀ ρ μ, Iv [] ρ μ → n ρ μ) :
    ∀ xs ρ μ, Iv xs ρ μ → dTurns G g ts2 ⟨n, r, b, c⟩ xs ρ μ
  | [], ρ, μ, h => ⟨hG _ _ _ h, hd _ _ h⟩
  | d :: xs, ρ, μ, h => ⟨hG _ _ _ h, hs d xs ρ μ h _ fun ρ μ h => w_turns Iv hG hs hd xs ρ μ h⟩
theorem s_for {tg iter : Expr} {wi : TI} {wi2 : TI2} {g : TG} {g2 : TG2} {js : List Nat} (hp : PassesOwn (model X.prog X.w) X.A X.env X.xe) (hc : X.calm = true) (hi : PI2 X tg iter wi wi2) (hg : PG2 X tg g g2 js) (hb : PSs2 X sts ts ts2)
    (hs : ∀ x, foldedSetIterable iter X.env x = pure x := by intro _; rfl) : PS2 X (.For tg iter sts [] pos) (tFor wi g ts) (dFor wi2 g2 ts2) :=
  ⟨ps_for hp hc hi.pi hg.pg hb.ps hs, fun D2 ρ μ q I σ H hA hS D gg => by
    refine hi.re ρ μ _ q I σ H hA hS _ fun J xs G μ1 I1 H1 q1 a1 k1 hJ => ?_
    obtain ⟨ρ0, μ0, sh0, q1⟩ := q1
    obtain ⟨I0, a0, s0, k0⟩ := sh0 X.K I1 σ H1 a1 (hS.mono k1.ex)
    refine ⟨fun i m σ' H' => m = xs.length - i ∧ i ≤ xs.length ∧ ∃ ρ' μ' I', dTurns G g2 ts2 D2 (xs.drop i) ρ' μ' ∧ At X.K μ' I' H' ∧ Slots X.K I' ρ' σ' ∧ Kp I μ H I' μ' H' ∧ Exx I1 I', ⟨xs.length, by simp, Nat.zero_le _, ρ0, μ0, I0, by simpa using q1, a0, s0, k1.trans k0, k0.ex⟩, ?_⟩
    rintro i m σ' H' ⟨rfl, hi', ρ', μ', I', w, a', s', k', e'⟩
    by_cases hlt : i < xs.length
    · have hd : xs.drop i = xs[i] :: xs.drop (i + 1) := by rw [List.drop_eq_getElem_cons hlt]
      rw [hd] at w
      obtain ⟨hG, w⟩ := w
      obtain ⟨⟨go, yl⟩, _⟩ := (fun z => ⟨z.1 hlt, z.2⟩ : _ → _ ∧ _) (hJ i I' μ' H' e' a' hG)
      refine .inr ⟨go, fun σ2 H2 => ∃ ρ' μ' I', dTurns G g2 ts2 D2 (xs.drop (i + 1)) ρ' μ' ∧ At X.K μ' I' H2 ∧ Slots X.K I' ρ' σ2 ∧ Kp I μ H I' μ' H2 ∧ Exx I1 I', fun σ2 H2 n => ⟨xs.length - (i + 1), by omega, rfl, hlt, n⟩, fun v H2 y => ?_⟩
      obtain ⟨d, I2, e2, a2, k2, r2⟩ := yl v H2 y
      rw [List.getElem?_eq_getElem hlt] at e2
      cases e2
      have kk := k'.trans k2
      refine hg.re _ ρ' μ' _ w I2 σ' H2 v a2 (s'.mono k2.ex) r2 _ fun ρ3 μ3 σ3 I3 H3 q3 a3 s3 k3 => ?_
      have kkk := kk.trans k3
      have nx : GoE X.K I3 μ3 H3 (Cl (dTurns G g2 ts2 D2 (xs.drop (i + 1)))) (fun σ2 H2 => ∃ ρ' μ' I', dTurns G g2 ts2 D2 (xs.drop (i + 1)) ρ' μ' ∧ At X.K μ' I' H2 ∧ Slots X.K I' ρ' σ2 ∧ Kp I μ H I' μ' H2 ∧ Exx I1 I') := by
        rintro ρ4 μ4 σ4 I4 H4 ⟨ρ5, μ5, sh, w5⟩ a4 s4 k4
        obtain ⟨I5, a5, s5, k5⟩ := sh X.K I4 σ4 H4 a4 s4
        exact ⟨ρ5, μ5, I5, w5, a5, s5, (kkk.trans k4).trans k5, e'.trans (k2.ex.trans (k3.ex.trans (k4.ex.trans k5.ex)))⟩
      exact hb.re _ ρ3 μ3 q3 I3 σ3 H3 a3 s3 _ ⟨nx, gg.rt.past kkk, gg.nx.past kkk, nx⟩
    · have e : i = xs.length := by omega
      subst e
      rw [List.drop_length] at w
      exact .inl ⟨(hJ _ I' μ' H' e' a' w.1).2 (Nat.le_refl _), gg.nx ρ' μ' σ' I' H' w.2 a' s' k'⟩⟩
/-- a list, a tuple -/
def Still (x : D) (ds : List D) : Mu → Prop := fun μ => asL μ x = some ds
def jL (t : TE2) : TI2 := fun ρ μ R => t ρ μ fun x μ1 => ∃ ds, asL μ1 x = some ds ∧ R ds (Still x ds) μ1
def jLK (R : List D → (Mu → Prop) → Mu → Prop) : DK := fun x μ1 => ∃ ds, asL μ1 x = some ds ∧ R ds (Still x ds) μ1
def jT (t : TE2) : TI2 := fun ρ μ R => t ρ μ fun x μ1 => ∃ ds, x = .tup ds ∧ R ds (fun _ => True) μ1
def jTK (R : List D → (Mu → Prop) → Mu → Prop) : DK := fun x μ1 => ∃ ds, x = .tup ds ∧ R ds (fun _ => True) μ1
theorem w_jL {R : List D → (Mu → Prop) → Mu → Prop} (h : te2 ρ μ (jLK R)) : jL te2 ρ μ R := h
theorem w_jLK {R : List D → (Mu → Prop) → Mu → Prop} {x : D} {ds : List D} (h : asL μ x = some ds) (q : R ds (Still x ds) μ) : jLK R x μ := ⟨ds, h, q⟩
theorem w_jT {R : List D → (Mu → Prop) → Mu → Prop} (h : te2 ρ μ (jTK R)) : jT te2 ρ μ R := h
theorem w_jTK {R : List D → (Mu → Prop) → Mu → Prop} {ds : List D} (q : R ds (fun _ => True) μ) : jTK R (.tup ds) μ := ⟨ds, rfl, q⟩
theorem itd_l {I : Hp} {x : D} {p : Addr} {ds : List D} (r : Rp K I x (.ref p)) : ItD K (Itl K p) ds (Still x ds) I := fun i I' μ' H' e a g => by
  obtain ⟨p', vs, e1, h1, h2⟩ := asL_at a (r.mono e) g
  cases e1
  refine ⟨fun hi => ?_, fun hi => ⟨vs, SqL.of h1, by rw [h2.length]; exact hi⟩⟩
  obtain ⟨v, g1, g2⟩ := h2.get (List.getElem?_eq_getElem hi)
  refine ⟨⟨vs, v, SqL.of h1, g1⟩, fun w H2 y => ?_⟩
  obtain ⟨rfl, y⟩ := y
  have ew := y vs (SqL.of h1)
  rw [g1] at ew; cases ew
  exact ⟨_, I', List.getElem?_eq_getElem hi, a, Kp.refl, g2⟩
theorem j_l {tg : Expr} (h : PE2 X e te te2) : PI2 X tg e (iList X.K te) (jL te2) := ⟨pi_list h.pe, fun ρ μ R2 q I σ H hA hS R k => h.re ρ μ _ q I σ H hA hS _ fun x μ1 v I1 H1 q1 a1 k1 r1 => by
  obtain ⟨ds, e, q1⟩ := q1
  obtain ⟨p, vs, rfl, h1, h2⟩ := asL_at a1 r1 e
  exact ⟨p, rfl, ⟨vs, SqL.of h1⟩, k _ _ _ _ _ _ q1 a1 k1 (itd_l r1)⟩⟩
theorem j_t {tg : Expr} (h : PE2 X e te te2) : PI2 X tg e (iTup X.K te) (jT te2) := ⟨pi_tup h.pe, fun ρ μ R2 q I σ H hA hS R k => h.re ρ μ _ q I σ H hA hS _ fun x μ1 v I1 H1 q1 a1 k1 r1 => by
  obtain ⟨ds, rfl, q1⟩ := q1
  obtain ⟨p, vs, rfl, h1, h2⟩ := r1
  refine ⟨p, rfl, ⟨vs, (show Exx I1 H1 from a1.sub).sqt h1⟩, k _ _ _ _ _ _ q1 a1 k1 fun i I' μ' H' e a _ => ?_⟩
  have hs := (show Exx I' H' from a.sub).sqt (e.sqt h1)
  have h2' := h2.mono e
  refine ⟨fun hi => ?_, fun hi => ⟨vs, hs, by rw [h2.length]; exact hi⟩⟩
  obtain ⟨v, g1, g2⟩ := h2'.get (List.getElem?_eq_getElem hi)
  refine ⟨⟨vs, v, hs, g1⟩, fun w H2 y => ?_⟩
  obtain ⟨rfl, y⟩ := y
  have ew := y vs hs
  rw [g1] at ew; cases ew
  exact ⟨_, I', List.getElem?_eq_getElem hi, a, Kp.refl, g2⟩⟩
/-- range -/
def rngD (lo : Int) (n : Nat) : List D := (List.range n).map fun i : Nat => D.int (lo + (i : Int))
theorem rngD_len (lo : Int) (n : Nat) : (rngD lo n).length = n := by unfold rngD; rw [List.length_map, List.length_range]
theorem rngD_get {lo : Int} {n i : Nat} (h : i < n) : (rngD lo n)[i]? = some (.int (lo + (i : Int))) := by
  unfold rngD
  rw [List.getElem?_map, List.getElem?_range h]; rfl
theorem itd_r {I : Hp} (lo : Int) (n : Nat) : ItD K (Itr lo n) (rngD lo n) (fun _ => True) I := fun i I' μ' H' e a _ => by
  rw [rngD_len]
  refine ⟨fun hi => ⟨hi, fun w H2 y => ?_⟩, fun hi => hi⟩
  obtain ⟨rfl, rfl⟩ := y
  exact ⟨_, I', rngD_get hi, a, Kp.refl, rfl⟩
def jR1 (ta : TA2) : TI2 := fun ρ μ R => ta ρ μ fun xs μ1 => ∃ j : Int, xs = [.int j] ∧ -(2 ^ 62) ≤ j ∧ j < 2 ^ 62 ∧ R (rngD 0 j.toNat) (fun _ => True) μ1
def jR1K (R : List D → (Mu → Prop) → Mu → Prop) : List D → Mu → Prop := fun xs μ1 => ∃ j : Int, xs = [.int j] ∧ -(2 ^ 62) ≤ j ∧ j < 2 ^ 62 ∧ R (rngD 0 j.toNat) (fun _ => True) μ1
def jR2 (ta : TA2) : TI2 := fun ρ μ R => ta ρ μ fun xs μ1 => ∃ i j : Int, xs = [.int i, .int j] ∧ (-(2 ^ 62) ≤ i ∧ i < 2 ^ 62 ∧ -(2 ^ 62) ≤ j ∧ j < 2 ^ 62) ∧ R (rngD i (j - i).toNat) (fun _ => True) μ1
def jR2K (R : List D → (Mu → Prop) → Mu → Prop) : List D → Mu → Prop := fun xs μ1 => ∃ i j : Int, xs = [.int i, .int j] ∧ (-(2 ^ 62) ≤ i ∧ i < 2 ^ 62 ∧ -(2 ^ 62) ≤ j ∧ j < 2 ^ 62) ∧ R (rngD i (j - i).toNat) (fun _ => True) μ1
theorem w_jR1 {R : List D → (Mu → Prop) → Mu → Prop} (h : tl2 ρ μ (jR1K R)) : jR1 tl2 ρ μ R := h
theorem w_jR1K {R : List D → (Mu → Prop) → Mu → Prop} {j : Int} (h1 : -(2 ^ 62) ≤ j) (h2 : j < 2 ^ 62) (q : R (rngD 0 j.toNat) (fun _ => True) μ) : jR1K R [.int j] μ := ⟨j, rfl, h1, h2, q⟩
theorem w_jR2 {R : List D → (Mu → Prop) → Mu → Prop} (h : tl2 ρ μ (jR2K R)) : jR2 tl2 ρ μ R := h
theorem w_jR2K {R : List D → (Mu → Prop) → Mu → Prop} {i j : Int} (h : -(2 ^ 62) ≤ i ∧ i < 2 ^ 62 ∧ -(2 ^ 62) ≤ j ∧ j < 2 ^ 62) (q : R (rngD i (j - i).toNat) (fun _ => True) μ) : jR2K R [.int i, .int j] μ := ⟨i, j, rfl, h, q⟩
theorem j_r1 {tg : Expr} (hg : Gl X "range") (hm : X.mg "range" = none) (ha : PA2 X [a] tl tl2) (hs : starEach [a] X.env = [(false, eval a X.env)] := by rfl) : PI2 X tg (.Call (.Name "range" p) [a] [] pos) (iRng1 tl) (jR1 tl2) :=
  ⟨pi_range1 hg hm ha.pa hs, fun ρ μ R2 q I σ H hA hS R k => ha.re ρ μ _ q I σ H hA hS _ fun xs μ1 vs I1 H1 q1 a1 k1 r1 => by
    obtain ⟨j, rfl, h1, h2, q1⟩ := q1
    obtain ⟨v, rfl, e⟩ := r1.one_inv
    cases (show v = _ from e)
    exact ⟨j, rfl, h1, h2, k _ _ _ _ _ _ q1 a1 k1 (itd_r _ _)⟩⟩
theorem j_r2 {tg : Expr} (hg : Gl X "range") (hm : X.mg "range" = none) (ha : PA2 X [a, b] tl tl2) (hs : starEach [a, b] X.env = [(false, eval a X.env), (false, eval b X.env)] := by rfl) (hs2 : starEach [b] X.env = [(false, eval b X.env)] := by rfl) : PI2 X tg (.Call (.Name "range" p) [a, b] [] pos) (iRng2 tl) (jR2 tl2) :=
  ⟨pi_range2 hg hm ha.pa hs hs2, fun ρ μ R2 q I σ H hA hS R k => ha.re ρ μ _ q I σ H hA hS _ fun xs μ1 vs I1 H1 q1 a1 k1 r1 => by
    obtain ⟨i, j, rfl, h, q1⟩ := q1
    obtain ⟨v, w, rfl, e1, e2⟩ := r1.two_inv
    cases (show v = _ from e1)
    cases (show w = _ from e2)
    exact ⟨i, j, rfl, h, k _ _ _ _ _ _ q1 a1 k1 (itd_r _ _)⟩⟩
/-- a text, sign by sign -/
def sgnD (z : Str) : List D := z.cps.toList.map fun c => D.str ⟨#[c]⟩
def jS (t : TE2) : TI2 := fun ρ μ R => t ρ μ fun x μ1 => ∃ z, x = .str z ∧ R (sgnD z) (fun _ => True) μ1
def jSK (R : List D → (Mu → Prop) → Mu → Prop) : DK := fun x μ1 => ∃ z, x = .str z ∧ R (sgnD z) (fun _ => True) μ1
theorem w_jS {R : List D → (Mu → Prop) → Mu → Prop} (h : te2 ρ μ (jSK R)) : jS te2 ρ μ R := h
theorem w_jSK {R : List D → (Mu → Prop) → Mu → Prop} {z : Str} (q : R (sgnD z) (fun _ => True) μ) : jSK R (.str z) μ := ⟨z, rfl, q⟩
theorem j_s {tg : Expr} (h : PE2 X e te te2) : PI2 X tg e (iStr te) (jS te2) := ⟨pi_str h.pe, fun ρ μ R2 q I σ H hA hS R k => h.re ρ μ _ q I σ H hA hS _ fun x μ1 v I1 H1 q1 a1 k1 r1 => by
  obtain ⟨z, rfl, q1⟩ := q1
  refine ⟨z, r1, k _ _ _ _ _ _ q1 a1 k1 fun i I' μ' H' e a _ => ?_⟩
  have el : (sgnD z).length = z.cps.size := by unfold sgnD; rw [List.length_map, Array.length_toList]
  rw [el]
  refine ⟨fun hi => ⟨hi, fun w H2 y => ?_⟩, fun hi => hi⟩
  obtain ⟨rfl, c, hc, rfl⟩ := y
  refine ⟨.str ⟨#[c]⟩, I', ?_, a, Kp.refl, rfl⟩
  unfold sgnD
  rw [List.getElem?_map, Array.getElem?_toList, hc]; rfl⟩
end
end Y

set_option Elab.async false
set_option linter.all false
set_option maxRecDepth 100000
set_option maxHeartbeats 4000000
namespace Y
open PySem PySem.Spec PyProof.Rows L2
section
variable {X : Cx} {K : PySem.W.Frag} {a b c e o : Expr} {es rest : List Expr} {ta tb tc te to : TE} {ta2 tb2 tc2 te2 to2 : TE2} {pos apos cpos p tpos : Pos} {tt tu : TT} {tt2 tu2 : TT2} {tl : TA} {tl2 : TA2} {x : Str}
variable {ρ : Env2} {μ : Mu} {Q : DK} {T F : Mu → Prop} {st : Stmt} {sts sts' : List Stmt} {ts tz : TS} {ts2 tz2 : TS2} {D2 : Ends2}

/-! ### zip, enumerate, reversed -/
def prsD : List D → List D → List D
  | x :: xs, y :: ys => .tup [x, y] :: prsD xs ys
  | _, _ => []
theorem prsD_len : ∀ xs ys, (prsD xs ys).length = min xs.length ys.length
  | [], _ => by simp [prsD]
  | _ :: _, [] => by simp [prsD]
  | x :: xs, y :: ys => by simp [prsD, prsD_len xs ys]
theorem prsD_get : ∀ {xs ys : List D} {i : Nat} {x y : D}, xs[i]? = some x → ys[i]? = some y → (prsD xs ys)[i]? = some (.tup [x, y])
  | [], _, _, _, _, h, _ => by simp at h
  | _ :: _, [], _, _, _, _, h => by simp at h
  | _ :: xs, _ :: ys, 0, _, _, h, h' => by simp at h h'; simp [prsD, h, h']
  | _ :: xs, _ :: ys, i + 1, x, y, h, h' => by simpa [prsD] using prsD_get (xs := xs) (ys := ys) (i := i) (by simpa using h) (by simpa using h')
def enuD : Nat → List D → List D
  | _, [] => []
  | n, x :: xs => .tup [.int (n : Nat), x] :: enuD (n + 1) xs
theorem enuD_len : ∀ n xs, (enuD n xs).length = xs.length
  | _, [] => rfl
  | n, x :: xs => by show (enuD (n + 1) xs).length + 1 = xs.length + 1; rw [enuD_len (n + 1) xs]
theorem enuD_get : ∀ {xs : List D} {n i : Nat} {x : D}, xs[i]? = some x → (enuD n xs)[i]? = some (.tup [.int ((n + i : Nat) : Int), x])
  | [], _, _, _, h => by simp at h
  | _ :: xs, n, 0, _, h => by simp at h; simp [enuD, h]
  | _ :: xs, n, i + 1, x, h => by
    have := enuD_get (xs := xs) (n := n + 1) (i := i) (x := x) (by simpa using h)
    rw [show n + 1 + i = n + (i + 1) by omega] at this
    simpa [enuD] using this
theorem pair_new {I H : Hp} {T : Addr} {d1 d2 : D} {v1 v2 : V} (a : At K μ I H) (hT : H T = none) (r1 : Rp K I d1 v1) (r2 : Rp K I d2 v2) :
    ∃ I', At K μ I' (upd H T (.tup [v1, v2])) ∧ Kp I μ H I' μ (upd H T (.tup [v1, v2])) ∧ Rp K I' (.tup [d1, d2]) (.ref T) :=
  have e := Exx.new (o := HO.tup [v1, v2]) (a.noI hT)
  ⟨_, a.laid hT, Kp.laid hT (a.noI hT), ⟨T, [v1, v2], rfl, SqT.of upd_same, RpA.cons (r1.mono e) (RpA.one (r2.mono e))⟩⟩
theorem itd_z {I : Hp} {x y : D} {p q : Addr} {ds es : List D} (r : Rp K I x (.ref p)) (r' : Rp K I y (.ref q)) : ItD K (Itz K p q) (prsD ds es) (fun μ => Still x ds μ ∧ Still y es μ) I := fun i I' μ' H' e a g => by
  obtain ⟨_, vs, e1, h1, h2⟩ := asL_at a (r.mono e) g.1
  cases e1
  obtain ⟨_, ws, e1, h3, h4⟩ := asL_at a (r'.mono e) g.2
  cases e1
  rw [prsD_len]
  refine ⟨fun hi => ?_, fun hi => ⟨vs, ws, SqL.of h1, SqL.of h3, by rw [h2.length, h4.length]; omega⟩⟩
  have hi1 : i < ds.length := by omega
  have hi2 : i < es.length := by omega
  obtain ⟨v, g1, g2⟩ := h2.get (List.getElem?_eq_getElem hi1)
  obtain ⟨w, g3, g4⟩ := h4.get (List.getElem?_eq_getElem hi2)
  refine ⟨⟨vs, ws, v, w, SqL.of h1, SqL.of h3, g1, g3⟩, fun u H2 y => ?_⟩
  obtain ⟨T, a1, a2, rfl, hT, rfl, y1, y2⟩ := y
  have e1 := y1 vs (SqL.of h1)
  rw [g1] at e1; cases e1
  have e2 := y2 ws (SqL.of h3)
  rw [g3] at e2; cases e2
  obtain ⟨I2, b1, b2, b3⟩ := pair_new a hT g2 g4
  exact ⟨_, I2, prsD_get (List.getElem?_eq_getElem hi1) (List.getElem?_eq_getElem hi2), b1, b2, b3⟩
theorem itd_zT {I : Hp} {p q : Addr} {ds es : List D} {vs ws : List V} (h1 : SqT K I p vs) (h2 : RpA K I ds vs) (h3 : SqT K I q ws) (h4 : RpA K I es ws) : ItD K (RZ.ItzT K p q) (prsD ds es) (fun _ => True) I := fun i I' μ' H' e a _ => by
  have h1 := (show Exx I' H' from a.sub).sqt (e.sqt h1)
  have h3 := (show Exx I' H' from a.sub).sqt (e.sqt h3)
  have h2 := h2.mono e
  have h4 := h4.mono e
  rw [prsD_len]
  refine ⟨fun hi => ?_, fun hi => ⟨vs, ws, h1, h3, by rw [h2.length, h4.length]; omega⟩⟩
  have hi1 : i < ds.length := by omega
  have hi2 : i < es.length := by omega
  obtain ⟨v, g1, g2⟩ := h2.get (List.getElem?_eq_getElem hi1)
  obtain ⟨w, g3, g4⟩ := h4.get (List.getElem?_eq_getElem hi2)
  refine ⟨⟨vs, ws, v, w, h1, h3, g1, g3⟩, fun u H2 y => ?_⟩
  obtain ⟨T, a1, a2, rfl, hT, rfl, y1, y2⟩ := y
  have e1 := y1 vs h1
  rw [g1] at e1; cases e1
  have e2 := y2 ws h3
  rw [g3] at e2; cases e2
  obtain ⟨I2, b1, b2, b3⟩ := pair_new a hT g2 g4
  exact ⟨_, I2, prsD_get (List.getElem?_eq_getElem hi1) (List.getElem?_eq_getElem hi2), b1, b2, b3⟩
def jZ (ta : TA2) : TI2 := fun ρ μ R => ta ρ μ fun xs μ1 => (∃ x y ds es, xs = [x, y] ∧ asL μ1 x = some ds ∧ asL μ1 y = some es ∧ R (prsD ds es) (fun μ => Still x ds μ ∧ Still y es μ) μ1) ∨ ∃ ds es, xs = [.tup ds, .tup es] ∧ R (prsD ds es) (fun _ => True) μ1
def jZK (R : List D → (Mu → Prop) → Mu → Prop) : List D → Mu → Prop := fun xs μ1 => (∃ x y ds es, xs = [x, y] ∧ asL μ1 x = some ds ∧ asL μ1 y = some es ∧ R (prsD ds es) (fun μ => Still x ds μ ∧ Still y es μ) μ1) ∨ ∃ ds es, xs = [.tup ds, .tup es] ∧ R (prsD ds es) (fun _ => True) μ1
theorem w_jZ {R : List D → (Mu → Prop) → Mu → Prop} (h : tl2 ρ μ (jZK R)) : jZ tl2 ρ μ R := h
theorem w_jZL {R : List D → (Mu → Prop) → Mu → Prop} {x y : D} {ds es : List D} (h1 : asL μ x = some ds) (h2 : asL μ y = some es) (q : R (prsD ds es) (fun μ => Still x ds μ ∧ Still y es μ) μ) : jZK R [x, y] μ := .inl ⟨x, y, ds, es, rfl, h1, h2, q⟩
theorem w_jZT {R : List D → (Mu → Prop) → Mu → Prop} {ds es : List D} (q : R (prsD ds es) (fun _ => True) μ) : jZK R [.tup ds, .tup es] μ := .inr ⟨ds, es, rfl, q⟩
theorem j_z {elts : List Expr} {kk : Nat} (hg : Gl X "zip") (hm : X.mg "zip" = none) (ha : PA2 X [a, b] tl tl2) (hs : starEach [a, b] X.env = (false, eval a X.env) :: starEach [b] X.env := by rfl) (hpl : (backTo pos (starEach [b] X.env)).any (·.1) = false := by rfl) :
    PI2 X (.Tuple elts kk tpos) (.Call (.Name "zip" p) [a, b] [] pos) (RZ.iZipA X.K tl) (jZ tl2) :=
  ⟨RZ.pi_zipA hg hm ha.pa hs hpl, fun ρ μ R2 q I σ H hA hS R k => ha.re ρ μ _ q I σ H hA hS _ fun xs μ1 vs I1 H1 q1 a1 k1 r1 => by
    rcases q1 with ⟨x, y, ds, es, rfl, h1, h2, q1⟩ | ⟨ds, es, rfl, q1⟩
    · obtain ⟨v, w, rfl, e1, e2⟩ := r1.two_inv
      obtain ⟨p1, us, rfl, g1, g2⟩ := asL_at a1 e1 h1
      obtain ⟨p2, ws, rfl, g3, g4⟩ := asL_at a1 e2 h2
      exact ⟨p1, p2, us, ws, rfl, .inl ⟨SqL.of g1, SqL.of g3, k _ _ _ _ _ _ q1 a1 k1 (itd_z e1 e2)⟩⟩
    · obtain ⟨v, w, rfl, e1, e2⟩ := r1.two_inv
      obtain ⟨p1, us, rfl, g1, g2⟩ := e1
      obtain ⟨p2, ws, rfl, g3, g4⟩ := e2
      have hs : Exx I1 H1 := a1.sub
      exact ⟨p1, p2, us, ws, rfl, .inr ⟨hs.sqt g1, hs.sqt g3, k _ _ _ _ _ _ q1 a1 k1 (itd_zT g1 g2 g3 g4)⟩⟩⟩
def jE (ta : TA2) : TI2 := fun ρ μ R => ta ρ μ fun xs μ1 => ∃ x ds, xs = [x] ∧ asL μ1 x = some ds ∧ R (enuD 0 ds) (Still x ds) μ1
def jEK (R : List D → (Mu → Prop) → Mu → Prop) : List D → Mu → Prop := fun xs μ1 => ∃ x ds, xs = [x] ∧ asL μ1 x = some ds ∧ R (enuD 0 ds) (Still x ds) μ1
theorem w_jE {R : List D → (Mu → Prop) → Mu → Prop} (h : tl2 ρ μ (jEK R)) : jE tl2 ρ μ R := h
theorem w_jEL {R : List D → (Mu → Prop) → Mu → Prop} {x : D} {ds : List D} (h1 : asL μ x = some ds) (q : R (enuD 0 ds) (Still x ds) μ) : jEK R [x] μ := ⟨x, ds, rfl, h1, q⟩
theorem j_e {elts : List Expr} {kk : Nat} (hg : Gl X "enumerate") (hm : X.mg "enumerate" = none) (ha : PA2 X [a] tl tl2) (hs : starEach [a] X.env = [(false, eval a X.env)] := by rfl) :
    PI2 X (.Tuple elts kk tpos) (.Call (.Name "enumerate" p) [a] [] pos) (iEnum X.K tl) (jE tl2) :=
  ⟨pi_enum hg hm ha.pa hs, fun ρ μ R2 q I σ H hA hS R k => ha.re ρ μ _ q I σ H hA hS _ fun xs μ1 vs I1 H1 q1 a1 k1 r1 => by
    obtain ⟨x, ds, rfl, h1, q1⟩ := q1
    obtain ⟨v, rfl, e1⟩ := r1.one_inv
    obtain ⟨p1, us, rfl, g1, g2⟩ := asL_at a1 e1 h1
    refine ⟨p1, us, rfl, SqL.of g1, k _ _ _ _ _ _ q1 a1 k1 fun i I' μ' H' e a g => ?_⟩
    obtain ⟨_, vs, e1', h1, h2⟩ := asL_at a (e1.mono e) g
    cases e1'
    rw [enuD_len]
    refine ⟨fun hi => ?_, fun hi => ⟨vs, SqL.of h1, by rw [h2.length]; omega⟩⟩
    obtain ⟨v, g1, g2⟩ := h2.get (List.getElem?_eq_getElem hi)
    refine ⟨⟨vs, v, SqL.of h1, g1⟩, fun u H2 y => ?_⟩
    obtain ⟨T, a1, rfl, hT, rfl, y1⟩ := y
    have e1 := y1 vs (SqL.of h1)
    rw [g1] at e1; cases e1
    obtain ⟨I2, b1, b2, b3⟩ := pair_new (d1 := .int (i : Nat)) (v1 := .int (i : Nat)) a hT rfl g2
    have eg := enuD_get (n := 0) (List.getElem?_eq_getElem hi)
    rw [Nat.zero_add] at eg
    exact ⟨_, I2, eg, b1, b2, b3⟩⟩
def jV (t : TE2) : TI2 := fun ρ μ R => t ρ μ fun x μ1 => (∃ ds, asL μ1 x = some ds ∧ R ds.reverse (Still x ds) μ1) ∨ ∃ ds, x = .tup ds ∧ R ds.reverse (fun _ => True) μ1
def jVK (R : List D → (Mu → Prop) → Mu → Prop) : DK := fun x μ1 => (∃ ds, asL μ1 x = some ds ∧ R ds.reverse (Still x ds) μ1) ∨ ∃ ds, x = .tup ds ∧ R ds.reverse (fun _ => True) μ1
theorem w_jV {R : List D → (Mu → Prop) → Mu → Prop} (h : te2 ρ μ (jVK R)) : jV te2 ρ μ R := h
theorem w_jVL {R : List D → (Mu → Prop) → Mu → Prop} {x : D} {ds : List D} (h1 : asL μ x = some ds) (q : R ds.reverse (Still x ds) μ) : jVK R x μ := .inl ⟨ds, h1, q⟩
theorem w_jVT {R : List D → (Mu → Prop) → Mu → Prop} {ds : List D} (q : R ds.reverse (fun _ => True) μ) : jVK R (.tup ds) μ := .inr ⟨ds, rfl, q⟩
theorem rev_get {α : Type} {l : List α} {i : Nat} (h : i < l.length) : l.reverse[i]? = l[l.length - 1 - i]? := by rw [List.getElem?_reverse h]
theorem j_v {tg : Expr} (hg : Gl X "reversed") (hm : X.mg "reversed" = none) (he : PE2 X e te te2) (hs : starEach [e] X.env = (false, eval e X.env) :: starEach [] X.env := by rfl) : PI2 X tg (.Call (.Name "reversed" p) [e] [] pos) (RT.iRevA X.K te) (jV te2) :=
  ⟨RT.pi_revA hg hm he.pe hs, fun ρ μ R2 q I σ H hA hS R k => he.re ρ μ _ q I σ H hA hS _ fun x μ1 v I1 H1 q1 a1 k1 r1 => by
    rcases q1 with ⟨ds, h, q1⟩ | ⟨ds, rfl, q1⟩
    · obtain ⟨p1, us, rfl, g1, g2⟩ := asL_at a1 r1 h
      have el : us.length = ds.length := g2.length
      refine ⟨p1, us, rfl, .inl ⟨SqL.of g1, k _ _ _ _ _ _ q1 a1 k1 fun i I' μ' H' e a g => ?_⟩⟩
      obtain ⟨_, vs, e1', h1, h2⟩ := asL_at a (r1.mono e) g
      cases e1'
      rw [List.length_reverse, el]
      refine ⟨fun hi => ?_, fun hi => hi⟩
      obtain ⟨v, g1, g2⟩ := h2.get (List.getElem?_eq_getElem (show ds.length - 1 - i < ds.length by omega))
      refine ⟨⟨hi, vs, v, SqL.of h1, g1⟩, fun u H2 y => ?_⟩
      obtain ⟨rfl, y⟩ := y
      have e1 := y vs (SqL.of h1)
      rw [g1] at e1; cases e1
      exact ⟨_, I', by rw [rev_get hi]; exact List.getElem?_eq_getElem (by omega), a, Kp.refl, g2⟩
    · obtain ⟨p1, us, rfl, g1, g2⟩ := r1
      have el : us.length = ds.length := g2.length
      refine ⟨p1, us, rfl, .inr ⟨(show Exx I1 H1 from a1.sub).sqt g1, k _ _ _ _ _ _ q1 a1 k1 fun i I' μ' H' e a _ => ?_⟩⟩
      have h1 := (show Exx I' H' from a.sub).sqt (e.sqt g1)
      have h2 := g2.mono e
      rw [List.length_reverse, el]
      refine ⟨fun hi => ?_, fun hi => hi⟩
      obtain ⟨v, g1, g2⟩ := h2.get (List.getElem?_eq_getElem (show ds.length - 1 - i < ds.length by omega))
      refine ⟨⟨hi, us, v, h1, g1⟩, fun u H2 y => ?_⟩
      obtain ⟨rfl, y⟩ := y
      have e1 := y us h1
      rw [g1] at e1; cases e1
      exact ⟨_, I', by rw [rev_get hi]; exact List.getElem?_eq_getElem (by omega), a, Kp.refl, g2⟩⟩

/-! ### list comprehensions -/
theorem ts_nil : PTs2 X [] tYes (fun _ μ T _ => T μ) := ⟨pts_nil, fun ρ μ T F q I σ H hA hS Q g1 g2 => g1 μ I H q hA Kp.refl⟩
def dYes : TT2 := fun _ μ T _ => T μ
theorem w_yes (h : T μ) : dYes ρ μ T F := h
theorem ts_none : PTs2 X [] tYes dYes := ts_nil
theorem ts_one (h : PT2 X c tt tt2) : PTs2 X [c] tt tt2 := ⟨pts_one h.pt, h.re⟩
def wipe2 (ρ : Env2) : List Nat → Env2
  | [] => ρ
  | v :: vs => (wipe2 ρ vs).set v none
theorem Slots.wipe {I : Hp} {σ : L2.St} (h : Slots K I ρ σ) : ∀ vs : List Nat, Slots K I (wipe2 ρ vs) (L2.wipe σ vs)
  | [] => h
  | v :: vs => by
    have h' := Slots.wipe h vs
    unfold wipe2 L2.wipe
    refine ⟨by rw [List.length_set, List.length_set]; exact h'.1, fun i d e => ?_⟩
    by_cases hi : v = i
    · subst hi
      by_cases hl : v < (wipe2 ρ vs).length
      · rw [List.getElem?_set_self hl] at e; cases e
      · rw [List.getElem?_eq_none_iff.mpr (by rw [List.length_set]; omega)] at e; cases e
    · rw [List.getElem?_set_ne hi] at e ⊢
      exact h'.2 i d e
theorem wipe_get_mem {σ : L2.St} {i : Nat} : ∀ {vs : List Nat}, i ∈ vs → i < σ.length → (L2.wipe σ vs)[i]? = some none
  | v :: vs, hm, hl => by
    unfold L2.wipe
    by_cases hi : v = i
    · subst hi; rw [List.getElem?_set_self (by rw [wipe_length]; exact hl)]
    · rw [List.getElem?_set_ne hi]
      exact wipe_get_mem (by simpa [Ne.symm hi] using hm) hl
  | [], hm, _ => by cases hm
theorem wipe_get_out {σ : L2.St} {i : Nat} : ∀ {vs : List Nat}, i ∉ vs → (L2.wipe σ vs)[i]? = σ[i]?
  | [], _ => rfl
  | v :: vs, hm => by
    unfold L2.wipe
    rw [List.mem_cons, not_or] at hm
    rw [List.getElem?_set_ne (Ne.symm hm.1)]
    exact wipe_get_out hm.2
theorem wipe_same {σ σ2 : L2.St} {vs js : List Nat} (hj : ∀ j ∈ js, j ∈ vs) (l : σ2.length = (L2.wipe σ vs).length) (n : ∀ i, i ∉ js → σ2[i]? = (L2.wipe σ vs)[i]?) : L2.wipe σ2 vs = L2.wipe σ vs := by
  apply List.ext_getElem?
  intro i
  rw [wipe_length] at l
  by_cases hi : i ∈ vs
  · by_cases hl : i < σ.length
    · rw [wipe_get_mem hi hl, wipe_get_mem hi (by rw [l]; exact hl)]
    · rw [List.getElem?_eq_none_iff.mpr (by rw [wipe_length]; omega), List.getElem?_eq_none_iff.mpr (by rw [wipe_length]; omega)]
  · rw [wipe_get_out hi, n i (fun z => hi (hj i z))]
/-- the turns of a comprehension: items left, made so far -/
def dLcs (G : Mu → Prop) (g : TG2) (tt : TT2) (te : TE2) (ρ : Env2) (Q : DK) : List D → List D → Mu → Prop
  | [], acc, μ => G μ ∧ ∀ p, μ p = none → Q (.adr p) (mup μ p (.lst acc))
  | x :: xs, acc, μ => G μ ∧ g x ρ μ fun ρ2 μ2 => tt ρ2 μ2 (fun μ3 => te ρ2 μ3 fun d μ4 => acc.length < sizeLine ∧ dLcs G g tt te ρ Q xs (acc ++ [d]) μ4) (fun μ3 => dLcs G g tt te ρ Q xs acc μ3)
def dLc (wi : TI2) (g : TG2) (tt : TT2) (te : TE2) (vs : List Nat) : TE2 := fun ρ μ Q => wi ρ μ fun xs G μ1 => dLcs G g tt te (wipe2 ρ vs) Q xs [] μ1
theorem w_lc {wi : TI2} {g : TG2} {vs : List Nat} (h : wi ρ μ fun xs G μ1 => dLcs G g tt2 te2 (wipe2 ρ vs) Q xs [] μ1) : dLc wi g tt2 te2 vs ρ μ Q := h
theorem w_lcs0 {G : Mu → Prop} {g : TG2} {acc : List D} (h : G μ) (q : ∀ p, μ p = none → Q (.adr p) (mup μ p (.lst acc))) : dLcs G g tt2 te2 ρ Q [] acc μ := ⟨h, q⟩
def dLcK (G : Mu → Prop) (g : TG2) (tt : TT2) (te : TE2) (ρ : Env2) (Q : DK) (xs acc : List D) : DK := fun d μ4 => acc.length < sizeLine ∧ dLcs G g tt te ρ Q xs (acc ++ [d]) μ4
theorem w_lcs {G : Mu → Prop} {g : TG2} {acc xs : List D} {x : D} (h : G μ) (q : g x ρ μ fun ρ2 μ2 => tt2 ρ2 μ2 (fun μ3 => te2 ρ2 μ3 (dLcK G g tt2 te2 ρ Q xs acc)) (fun μ3 => dLcs G g tt2 te2 ρ Q xs acc μ3)) : dLcs G g tt2 te2 ρ Q (x :: xs) acc μ := ⟨h, q⟩
theorem w_lcK {G : Mu → Prop} {g : TG2} {acc xs : List D} {d : D} (z : acc.length < sizeLine) (q : dLcs G g tt2 te2 ρ Q xs (acc ++ [d]) μ) : dLcK G g tt2 te2 ρ Q xs acc d μ := ⟨z, q⟩
theorem Kp.foreign {I0 I H0 H : Hp} {μ0 μ1 : Mu} {Dl : Addr} {o : HO} (k : Kp I0 μ0 H0 I μ1 H) (h : H0 Dl = none) : Kp I0 μ0 H0 I μ1 (upd H Dl o) := ⟨k.ex, fun b u e h1 h2 => by
  obtain ⟨x, y, z⟩ := k.fr b u e h1 h2
  exact ⟨by rw [upd_ne (ne_of_none e h)]; exact x, y, z⟩⟩
theorem At.foreign {I H : Hp} {Dl : Addr} {o : HO} (a : At K μ I H) (hI : I Dl = none) (hM : μ Dl = none) : At K μ I (upd H Dl o) := ⟨fun b u e => by
  rw [upd_ne (ne_of_none e hI)]; exact a.sub b u e, fun b m e => by
  obtain ⟨h1, u, h2, h3⟩ := a.own b m e
  have hb : b ≠ Dl := fun z => by rw [z, hM] at e; cases e
  exact ⟨h1, u, by rw [upd_ne hb]; exact h2, h3⟩⟩
theorem re_lc {wi : TI} {wi2 : TI2} {g : TG} {g2 : TG2} {js vs : List Nat} (hi : RI K wi wi2) (hg : RG K g g2) (ho : OnlyG g js) (ht : RT K tt tt2) (he : RE K te te2) (hj : ∀ j ∈ js, j ∈ vs) : RE K (tLc wi g tt te vs) (dLc wi2 g2 tt2 te2 vs) := fun ρ μ Q2 q I σ H hA hS Q gg => by
  refine hi ρ μ _ q I σ H hA hS _ fun J xs G μ1 I1 H1 q1 a1 k1 hJ => ?_
  intro Dl hD
  have hsW : ∀ {I' : Hp}, Exx I1 I' → Slots K I' (wipe2 ρ vs) (L2.wipe σ vs) := fun e => (hS.mono (k1.ex.trans e)).wipe vs
  refine ⟨fun i m H' => m = xs.length - i ∧ i ≤ xs.length ∧ ∃ acc ws μ' I', dLcs G g2 tt2 te2 (wipe2 ρ vs) Q2 (xs.drop i) acc μ' ∧ At K μ' I' H' ∧ H' Dl = some (.lst ws) ∧ I' Dl = none ∧ μ' Dl = none ∧ RpA K I' acc ws ∧ Kp I1 μ1 H1 I' μ' H',
    ⟨xs.length, by simp, Nat.zero_le _, [], [], μ1, I1, by simpa using q1, a1.foreign (a1.noI hD) (a1.noM hD), upd_same, a1.noI hD, a1.noM hD, rfl, Kp.refl.foreign hD⟩, ?_⟩
  rintro i m H' ⟨rfl, hle, acc, ws, μ', I', w, a', hDl, hDI, hDM, rr, k'⟩
  by_cases hlt : i < xs.length
  · have hd : xs.drop i = xs[i] :: xs.drop (i + 1) := by rw [List.drop_eq_getElem_cons hlt]
    rw [hd] at w
    obtain ⟨hG, w⟩ := w
    obtain ⟨⟨go, yl⟩, _⟩ := (fun z => ⟨z.1 hlt, z.2⟩ : _ → _ ∧ _) (hJ i I' μ' H' k'.ex a' hG)
    refine .inr ⟨go, fun H2 => ∃ acc ws μ' I', dLcs G g2 tt2 te2 (wipe2 ρ vs) Q2 (xs.drop (i + 1)) acc μ' ∧ At K μ' I' H2 ∧ H2 Dl = some (.lst ws) ∧ I' Dl = none ∧ μ' Dl = none ∧ RpA K I' acc ws ∧ Kp I1 μ1 H1 I' μ' H2, fun H2 n => ⟨xs.length - (i + 1), by omega, rfl, hlt, n⟩, fun v H2 y => ?_⟩
    obtain ⟨d, I2, e2, a2, k2, r2⟩ := yl v H2 y
    rw [List.getElem?_eq_getElem hlt] at e2
    cases e2
    have kk := k'.trans k2
    obtain ⟨f1, f2, f3⟩ := k2.fr Dl _ hDl hDI hDM
    refine ho v _ H2 _ _ (fun σ3 H3 l3 n3 z => ⟨wipe_same hj l3 n3, z⟩) (hg _ _ μ' _ w I2 (L2.wipe σ vs) H2 v a2 (hsW kk.ex) r2 _ fun ρ3 μ3 σ3 I3 H3 q3 a3 s3 k3 => ?_)
    obtain ⟨g1, g2', g3⟩ := k3.fr Dl _ f1 f2 f3
    refine ht ρ3 μ3 _ _ q3 I3 σ3 H3 a3 s3 _ (fun μ4 I4 H4 q4 a4 k4 => ?_) (fun μ4 I4 H4 q4 a4 k4 => ?_)
    · rw [if_pos rfl]
      obtain ⟨p1, p2, p3⟩ := k4.fr Dl _ g1 g2' g3
      refine he ρ3 μ4 _ q4 I4 σ3 H4 a4 (s3.mono k4.ex) _ fun d μ5 u I5 H5 q5 a5 k5 r5 => ?_
      obtain ⟨o1, o2, o3⟩ := k5.fr Dl _ p1 p2 p3
      obtain ⟨z, q5⟩ := q5
      have kx := ((k2.trans k3).trans k4).trans k5
      refine ⟨ws, o1, by rw [rr.length]; exact z, acc ++ [d], ws ++ [u], μ5, I5, q5, a5.foreign o2 o3, upd_same, o2, o3, (rr.mono kx.ex).append (RpA.one r5), (k'.trans kx).foreign hD⟩
    · rw [if_neg Bool.false_ne_true]
      obtain ⟨p1, p2, p3⟩ := k4.fr Dl _ g1 g2' g3
      have kx := (k2.trans k3).trans k4
      exact ⟨acc, ws, μ4, I4, q4, a4, p1, p2, p3, rr.mono kx.ex, k'.trans kx⟩
  · have e : i = xs.length := by omega
    subst e
    rw [List.drop_length] at w
    refine .inl ⟨(hJ _ I' μ' H' k'.ex a' w.1).2 (Nat.le_refl _), ?_⟩
    refine gg _ (mup μ' Dl (.lst acc)) _ I' H' (w.2 Dl hDM) ⟨a'.sub, fun b m e => ?_⟩ ?_ rfl
    · by_cases hb : b = Dl
      · subst hb; rw [mup_same] at e; cases e; exact ⟨hDI, _, hDl, ws, rfl, rr⟩
      · rw [mup_ne hb] at e; exact a'.own b m e
    · have kz := k1.trans k'
      refine ⟨kz.ex, fun b u e h1 h2 => ?_⟩
      obtain ⟨x, y, z⟩ := kz.fr b u e h1 h2
      obtain ⟨x1, _, _⟩ := k1.fr b u e h1 h2
      have hb : b ≠ Dl := fun z => by rw [z, hD] at x1; cases x1
      exact ⟨x, y, by rw [mup_ne hb]; exact z⟩
/-- the readings that a block has at each of its starts -/
def teOf (K : PySem.W.Frag) (t : TE2) : TE := fun σ H Q => ∃ ρ μ I Q2, t ρ μ Q2 ∧ At K μ I H ∧ Slots K I ρ σ ∧ Go K I μ H Q2 Q
def ttOf (K : PySem.W.Frag) (t : TT2) : TT := fun σ H Q => ∃ ρ μ I T F, t ρ μ T F ∧ At K μ I H ∧ Slots K I ρ σ ∧ GoU K I μ H T (Q true) ∧ GoU K I μ H F (Q false)
def gOf (K : PySem.W.Frag) (g : TG2) (js : List Nat) : TG := fun v σ H Q => ∃ d ρ μ I Q2, g d ρ μ Q2 ∧ At K μ I H ∧ Slots K I ρ σ ∧ Rp K I d v ∧
  ∀ ρ' μ' σ' I' H', σ'.length = σ.length → (∀ i, i ∉ js → σ'[i]? = σ[i]?) → Q2 ρ' μ' → At K μ' I' H' → Slots K I' ρ' σ' → Kp I μ H I' μ' H' → Q σ' H'
theorem pe_can (h : ∃ te, PE2 X e te te2) : PE X e (teOf X.K te2) := by
  obtain ⟨te, h⟩ := h
  exact ⟨fun pins s σ H Q I q => by
    obtain ⟨ρ, μ, I2, Q2, q1, q2, q3, q4⟩ := q
    exact h.pe.run pins s σ H Q I (h.re ρ μ Q2 q1 I2 σ H q2 q3 Q q4)⟩
theorem re_can : RE K (teOf K te2) te2 := fun ρ μ Q2 q I σ H hA hS Q g => ⟨ρ, μ, I, Q2, q, hA, hS, g⟩
theorem pts_can {ifs : List Expr} (h : ∃ tt, PTs2 X ifs tt tt2) : PTs X ifs (ttOf X.K tt2) := by
  obtain ⟨te, h⟩ := h
  exact ⟨fun pins s σ H Q I q => by
    obtain ⟨ρ, μ, I2, T, F, q1, q2, q3, q4, q5⟩ := q
    exact h.pt.run pins s σ H Q I (h.re ρ μ T F q1 I2 σ H q2 q3 Q q4 q5)⟩
theorem rt_can : RT K (ttOf K tt2) tt2 := fun ρ μ T F q I σ H hA hS Q g1 g2 => ⟨ρ, μ, I, T, F, q, hA, hS, g1, g2⟩
theorem pg_can {tg : Expr} {g2 : TG2} {js : List Nat} (h : ∃ g, PG2 X tg g g2 js) : PG X tg (gOf X.K g2 js) := by
  obtain ⟨g, h⟩ := h
  exact ⟨fun pins s σ H v u Q I r q => by
    obtain ⟨d, ρ, μ, I2, Q2, q1, q2, q3, q4, q5⟩ := q
    refine h.pg.run pins s σ H v u Q I r (h.only v σ H _ _ (fun σ2 H2 l n z => ?_) (h.re d ρ μ Q2 q1 I2 σ H v q2 q3 q4 (fun σ' H' => ∃ ρ' μ' I', Q2 ρ' μ' ∧ At X.K μ' I' H' ∧ Slots X.K I' ρ' σ' ∧ Kp I2 μ H I' μ' H') (fun ρ' μ' σ' I' H' a b c d => ⟨ρ', μ', I', a, b, c, d⟩)))
    obtain ⟨ρ', μ', I', a, b, c, d⟩ := z
    exact q5 ρ' μ' σ2 I' H2 l n a b c d⟩
theorem rg_can {g2 : TG2} {js : List Nat} : RG K (gOf K g2 js) g2 := fun d ρ μ Q2 q I σ H v hA hS r Q g => ⟨d, ρ, μ, I, Q2, q, hA, hS, r, fun ρ' μ' σ' I' H' _ _ a b c d => g ρ' μ' σ' I' H' a b c d⟩
theorem only_can {g2 : TG2} {js : List Nat} : OnlyG (gOf K g2 js) js := fun v σ H Q Q' h q => by
  obtain ⟨d, ρ, μ, I2, Q2, q1, q2, q3, q4, q5⟩ := q
  exact ⟨d, ρ, μ, I2, Q2, q1, q2, q3, q4, fun ρ' μ' σ' I' H' l n a b c d => h σ' H' l n (q5 ρ' μ' σ' I' H' l n a b c d)⟩
abbrev Blk (X : Cx) (scope : Scope) (P : Cx → Prop) : Prop := ∀ (s : Shared) (H : Hp) (C : Addr) (cl : List (Str × Addr)) (fp : List Addr), P (X.blk s H scope (compEnvC scope cl C X.env) fp)
theorem e_lc {elt tg iter : Expr} {ifs : List Expr} {scope : Scope} {own : List (Str × Nat)} {wi : TI} {wi2 : TI2} {g2 : TG2} {js : List Nat} (hc : X.calm = true) (hN : X.N.Nodup) (hi : PI2 X tg iter wi wi2) (ok : BlkOk X.N X.env.scope scope own)
    (hg : Blk X scope fun X => ∃ g, PG2 X tg g g2 js) (ht : Blk X scope fun X => ∃ tt, PTs2 X ifs tt tt2) (he : Blk X scope fun X => ∃ te, PE2 X elt te te2) (hj : ∀ j ∈ js, j ∈ own.map (·.2) := by decide) (hs : ∀ x, foldedSetIterable iter X.env x = pure x := by intro _; rfl) :
    PE2 X (.ListComp elt [⟨tg, iter, ifs, 0⟩] scope pos) (tLc wi (gOf X.K g2 js) (ttOf X.K tt2) (teOf X.K te2) (own.map (·.2))) (dLc wi2 g2 tt2 te2 (own.map (·.2))) :=
  ⟨pe_lc hc hN hi.pi ok (fun s H C cl fp => pg_can (hg s H C cl fp)) (fun s H C cl fp => pts_can (ht s H C cl fp)) (fun s H C cl fp => pe_can (he s H C cl fp)) hs,
   re_lc hi.re rg_can only_can rt_can re_can hj⟩
theorem ps_lc {i : Nat} {y : Str} {py spos : Pos} {elt tg iter : Expr} {ifs : List Expr} {scope : Scope} {own : List (Str × Nat)} {wi : TI} {wi2 : TI2} {g2 : TG2} {js : List Nat} (hc : X.calm = true) (hN : X.N.Nodup) (hy : X.N[i]? = some y) (hyl : X.env.scope.names.lookup y = some .local)
    (hsw : swapsWith (.ListComp elt [⟨tg, iter, ifs, 0⟩] scope pos) (some (.Name y py)) spos.line X.env = pure true) (hi : PI2 X tg iter wi wi2) (ok : BlkOk X.N X.env.scope scope own)
    (hg : Blk X scope fun X => ∃ g, PG2 X tg g g2 js) (ht : Blk X scope fun X => ∃ tt, PTs2 X ifs tt tt2) (he : Blk X scope fun X => ∃ te, PE2 X elt te te2) (hs : ∀ x, foldedSetIterable iter X.env x = pure x := by intro _; rfl) :
    PS X (.Assign [.Name y py] (.ListComp elt [⟨tg, iter, ifs, 0⟩] scope pos) spos) (tAsg (tLc wi (gOf X.K g2 js) (ttOf X.K tt2) (teOf X.K te2) (own.map (·.2))) (gName i)) :=
  ps_setLc hc hN hy hyl hsw hi.pi ok (fun s H C cl fp => pg_can (hg s H C cl fp)) (fun s H C cl fp => pts_can (ht s H C cl fp)) (fun s H C cl fp => pe_can (he s H C cl fp)) hs
theorem s_setLc {i : Nat} {y : Str} {py spos : Pos} {elt tg iter : Expr} {ifs : List Expr} {scope : Scope} {own : List (Str × Nat)} {wi : TI} {wi2 : TI2} {g2 : TG2} {js : List Nat} (hc : X.calm = true) (hN : X.N.Nodup) (hy : X.N[i]? = some y) (hyl : X.env.scope.names.lookup y = some .local)
    (hsw : swapsWith (.ListComp elt [⟨tg, iter, ifs, 0⟩] scope pos) (some (.Name y py)) spos.line X.env = pure true) (hi : PI2 X tg iter wi wi2) (ok : BlkOk X.N X.env.scope scope own)
    (hg : Blk X scope fun X => ∃ g, PG2 X tg g g2 js) (ht : Blk X scope fun X => ∃ tt, PTs2 X ifs tt tt2) (he : Blk X scope fun X => ∃ te, PE2 X elt te te2) (hj : ∀ j ∈ js, j ∈ own.map (·.2) := by decide) (hs : ∀ x, foldedSetIterable iter X.env x = pure x := by intro _; rfl) :
    PS2 X (.Assign [.Name y py] (.ListComp elt [⟨tg, iter, ifs, 0⟩] scope pos) spos) (tAsg (tLc wi (gOf X.K g2 js) (ttOf X.K tt2) (teOf X.K te2) (own.map (·.2))) (gName i)) (dAsg (dLc wi2 g2 tt2 te2 (own.map (·.2))) (gN i)) :=
  ⟨ps_lc hc hN hy hyl hsw hi ok hg ht he hs, re_asg (re_lc hi.re rg_can only_can rt_can re_can hj) (re_gN i)⟩
end

/-! ### defs -/
abbrev XK2 := Addr → List (Str × D) → Mu → Prop
abbrev Sp2 := List D → Mu → DK → XK2 → Prop
def GoX (K : PySem.W.Frag) (I : Hp) (μ : Mu) (H : Hp) (E2 : XK2) (E : XK) : Prop := ∀ C fs μ' I' H' dx hfs, E2 C fs μ' → At K μ' I' H' → Kp I μ H I' μ' H' → H' dx = some (.xd hfs) → RpF K I' fs hfs → E (.ref C) (some dx) H'
def toSp (K : PySem.W.Frag) (sp : Sp2) : Sp := fun vs H Q E => ∃ ds μ I Q2 E2, At K μ I H ∧ RpA K I ds vs ∧ sp ds μ Q2 E2 ∧ Go K I μ H Q2 Q ∧ GoX K I μ H E2 E
abbrev NoX : XK2 := fun _ _ _ => False
theorem goX_no {K : PySem.W.Frag} {I H : Hp} {μ : Mu} {E : XK} : GoX K I μ H NoX E := fun _ _ _ _ _ _ _ h => h.elim
/-- a def of the module that keeps a promise, and raises nothing -/
structure Df (P : Program) (w : World) (K : PySem.W.Frag) (mg : Str → Option Value) (base : Heap) (x : Str) (k : Nat) (ps : List Str) (sp : Sp2) : Prop where
  of : ∃ f fd, FnOk P w K mg base CX0 k f fd ps (toSp K sp) ∧ mg x = some (.ref f) ∧ PySem.W.keepIn K (.ref f) = true ∧ Binds K fd ps [] ∧ ∃ oc od osl, K.lookup f = some ⟨oc, od, .func fd, osl⟩
/-- a def as it stands behind the top -/
structure Tx (K : PySem.W.Frag) (mg : Str → Option Value) (x : Str) (st : Stmt) (ps : List Str) : Prop where
  of : ∃ f fd, Fun K x x st f fd ∧ mg x = some (.ref f) ∧ Binds K fd ps []
section
variable {X : Cx} {K : PySem.W.Frag} {a b c e o : Expr} {es rest : List Expr} {ta tb tc te to : TE} {ta2 tb2 tc2 te2 to2 : TE2} {pos apos cpos p tpos : Pos} {tl : TA} {tl2 : TA2} {x : Str}
variable {ρ : Env2} {μ : Mu} {Q : DK} {k j : Nat} {ps : List Str} {sp : Sp2}
def dCall (sp : Sp2) (t : TA2) : TE2 := fun ρ μ Q => t ρ μ fun ds μ1 => sp ds μ1 Q NoX
theorem w_call (h : tl2 ρ μ fun ds μ1 => sp ds μ1 Q NoX) : dCall sp tl2 ρ μ Q := h
theorem re_call {E : XK} (h : RA K tl tl2) : RE K (tCall (toSp K sp) [] E tl) (dCall sp tl2) := fun ρ μ Q2 q I σ H hA hS Q g =>
  h ρ μ _ q I σ H hA hS _ fun ds μ1 vs I1 H1 q1 a1 k1 r1 => by
    show toSp K sp (vs ++ []) H1 Q E
    rw [List.append_nil]
    exact ⟨ds, μ1, I1, Q2, NoX, a1, r1, q1, g.past k1, goX_no⟩
/-- f(..) -/
theorem e_call (F : Df X.prog X.w X.K X.mg X.base x j ps sp) (hr : Room k X.A) (hg : Gl X x) (ha : PA2 X (e :: es) tl tl2) (hjk : j ≤ k := by decide) (hdb : (x == ("__debug__" : Str)) = false := by decide) (he : starEach (e :: es) X.env = (false, eval e X.env) :: starEach es X.env := by rfl) (hpl : (backTo pos (starEach es X.env)).any (·.1) = false := by rfl) :
    PE2 X (.Call (.Name x p) (e :: es) [] pos) (tCall (toSp X.K sp) [] E0 tl) (dCall sp tl2) := by
  obtain ⟨f, fd, F, hm, hk, hb, _⟩ := F.of
  exact ⟨pe_call F (hr.mono hjk) hg hm hk hb .nil pass0 ha.pa hdb he hpl, re_call ha.re⟩
theorem e_call0 (F : Df X.prog X.w X.K X.mg X.base x j ps sp) (hr : Room k X.A) (hg : Gl X x) (hjk : j ≤ k := by decide) (hdb : (x == ("__debug__" : Str)) = false := by decide) :
    PE2 X (.Call (.Name x p) [] [] pos) (tCall (toSp X.K sp) [] E0 tNil) (dCall sp dNil) := by
  obtain ⟨f, fd, F, hm, hk, hb, _⟩ := F.of
  exact ⟨pe_call0 F (hr.mono hjk) hg hm hk hb .nil pass0 hdb, re_call (a_nil (X := X)).re⟩
def start2 (N : List Str) (ds : List D) : Env2 := ds.map some ++ List.replicate (N.length - ds.length) none
theorem RpA.slots {I : Hp} : ∀ {ds : List D} {vs : List V}, RpA K I ds vs → Slots K I (ds.map some) (vs.map some)
  | [], _, r => by cases (show _ = _ from r); exact ⟨rfl, fun i d e => by simp at e⟩
  | d :: ds, _, r => by
    obtain ⟨v, w, rfl, r1, r2⟩ := r
    obtain ⟨l, h⟩ := RpA.slots r2
    refine ⟨by simpa using l, fun i d' e => ?_⟩
    cases i with
    | zero => simp at e; subst e; exact ⟨v, by simp, r1⟩
    | succ i => simpa using h i d' (by simpa using e)
theorem slots_start {I : Hp} {N : List Str} {ds : List D} {vs : List V} (r : RpA K I ds vs) : Slots K I (start2 N ds) (L2.start N vs) := by
  obtain ⟨l, h⟩ := r.slots
  unfold start2 L2.start
  refine ⟨by rw [List.length_append, List.length_append, l, List.length_replicate, List.length_replicate, r.length], fun i d e => ?_⟩
  by_cases hi : i < (ds.map some).length
  · rw [List.getElem?_append_left hi] at e
    rw [List.getElem?_append_left (by rw [← l]; exact hi)]
    exact h i d e
  · rw [List.getElem?_append_right (by omega)] at e
    rw [List.getElem?_replicate] at e
    split at e <;> cases e
/-- THE RULE for a def -/
theorem Tx.ok {P : Program} {w : World} {mg : Str → Option Value} {base : Heap} {st : Stmt} {N : List Str} (T : Tx K mg x st ps) (S : FnScope N ps (defScope st)) (len : ∀ ds μ Q E, sp ds μ Q E → ds.length = ps.length)
    (hb : ∀ (f : Addr) (cdv : Value) (A : Around) (outer : List Env) (s : Shared) (H : Hp) (E : XK), Room k (A.deeper (envOfC x (defScope st) s.heap.objs.size f cdv)) →
      ∃ ts t, PSs2 (cxOf CX0 P w K mg base N x (defScope st) f cdv A outer s H E).nox (defBody st) ts t ∧ ∀ ds μ Q E2, sp ds μ Q E2 → t { nx := fun _ μ' => RtC Q .non μ', rt := RtC Q } (start2 N ds) μ) : Df P w K mg base x (k + 1) ps sp := by
  obtain ⟨f, fd, F, hm, hbd⟩ := T.of
  refine ⟨f, fd, F.ok S (fun vs H Q E h => ?_) (fun cdv A outer s H vs Q E hr h => ?_), hm, F.kp, hbd, ?_⟩
  · obtain ⟨ds, μ, I, Q2, E2, _, r, hsp, _⟩ := h
    rw [r.length]; exact len _ _ _ _ hsp
  · obtain ⟨ds, μ, I, Q2, E2, hA, r, hsp, g, gx⟩ := h
    obtain ⟨ts, t, ht, hq⟩ := hb f cdv A outer s H E hr
    refine ⟨ts, ht.ps, ht.re _ _ μ (hq ds μ Q2 E2 hsp) I _ H hA (slots_start r) _ ⟨?_, ?_, fun _ _ _ _ _ h => h.elim, fun _ _ _ _ _ h => h.elim⟩⟩
    · rintro ρ' μ' σ' I' H' ⟨d', μ2, sh, q⟩ a' s' k'
      obtain ⟨I2, a2, k2, r2⟩ := sh K I' H' .non a' rfl
      exact g d' μ2 _ I2 H' q a2 (k'.trans k2) r2
    · rintro d μ' v I' H' ⟨d', μ2, sh, q⟩ a' k' r'
      obtain ⟨I2, a2, k2, r2⟩ := sh K I' H' v a' r'
      exact g d' μ2 _ I2 H' q a2 (k'.trans k2) r2
  · obtain ⟨oc, od, kV, doc, pm, an, cdv, ct, osl, rfl, lk, _⟩ := F.ex
    exact ⟨oc, od, osl, lk⟩
theorem Df.imp {P : Program} {w : World} {mg : Str → Option Value} {base : Heap} {sp' : Sp2} (F : Df P w K mg base x k ps sp) (h : ∀ ds μ Q E, sp' ds μ Q E → sp ds μ Q E) : Df P w K mg base x k ps sp' := by
  obtain ⟨f, fd, F, hm, hk, hb⟩ := F.of
  exact ⟨f, fd, F.imp fun vs H Q E q => by
    obtain ⟨ds, μ, I, Q2, E2, a, r, s, g⟩ := q
    exact ⟨ds, μ, I, Q2, E2, a, r, h _ _ _ _ s, g⟩, hm, hk, hb⟩
/-- the law's own promise -/
def spLaw : Sp2 := fun ds μ Q _ => ∃ ns : List Int, ds = [.scr ns] ∧ ns.length ≤ 63 ∧ ∀ μ', Q (.bl true) μ'
theorem law_in {K : PySem.W.Frag} {H : Hp} {a : Addr} {ns : List Int} (hl : ns.length ≤ 63) (hS : SqL K H a (ns.map V.int)) : toSp K spLaw [.ref a] H (fun v _ => v = .bl true) fun _ _ _ => False :=
  ⟨[.scr ns], fun _ => none, H, fun d _ => d = .bl true, NoX, ⟨fun _ _ h => h, fun _ _ h => nomatch h⟩, ⟨_, [], rfl, ⟨a, rfl, hS⟩, rfl⟩, ⟨ns, rfl, hl, fun _ => rfl⟩, fun d μ' v I' H' q _ _ r => by subst q; exact r, goX_no⟩
end
end Y

set_option Elab.async false
set_option linter.all false
set_option maxRecDepth 100000
set_option maxHeartbeats 4000000
namespace Y
open PySem PySem.Spec PyProof.Rows L2
/-- a constant of the module -/
def Gc (mg : Str → Option Value) (x : Str) (v : V) : Prop := ∃ u, mg x = some u ∧ RelV v u
def V.d : V → D
  | .int i => .int i | .str x => .str x | .bl b => .bl b | .ty n => .ty n | .ref a => .adr a | _ => .non
section
variable {X : Cx} {K : PySem.W.Frag} {a b c e o : Expr} {es rest : List Expr} {ta tb tc te to : TE} {ta2 tb2 tc2 te2 to2 : TE2} {pos apos cpos p tpos : Pos} {tt tu : TT} {tt2 tu2 : TT2} {tl : TA} {tl2 : TA2} {x : Str}
variable {ρ : Env2} {μ : Mu} {Q : DK} {T F : Mu → Prop} {st : Stmt} {sts sts' : List Stmt} {ts tz : TS} {ts2 tz2 : TS2} {D2 : Ends2}
theorem e_globS {z : Str} (G : Gc X.mg x (.str z)) (hg : Gl X x) (hd : (x == ("__debug__" : Str)) = false := by decide) : PE2 X (.Name x pos) (tC (.str z)) (dC (.str z)) := by
  obtain ⟨u, hm, r⟩ := G
  exact e_cst (pe_glob hg hm r hd) fun _ => rfl
theorem e_globI {z : Int} (G : Gc X.mg x (.int z)) (hg : Gl X x) (hd : (x == ("__debug__" : Str)) = false := by decide) : PE2 X (.Name x pos) (tC (.int z)) (dC (.int z)) := by
  obtain ⟨u, hm, r⟩ := G
  exact e_cst (pe_glob hg hm r hd) fun _ => rfl
/-- a built-in type as a value -/
theorem e_bty {n : String} (hg : Gl X x) (hm : X.mg x = none) (hv : bootBuiltins x = some (.type n)) (hn : x ≠ "__name__" := by decide) (hd : (x == ("__debug__" : Str)) = false := by decide) : PE2 X (.Name x pos) (tC (.ty n)) (dC (.ty n)) := e_cst (pe_bltn hg hm hv rfl hn hd) fun _ => rfl
/-- products of all kinds -/
abbrev rvMulA : R2 := rOr rvMul (rOr rvMulW rRep)
def dMulA : DR2 := fun x y μ Q => dMul x y μ Q ∨ dMulW x y μ Q ∨ dRep x y μ Q
theorem rr_mul : RR K rvMul dMul := rr_I fun _ _ _ => rfl
theorem rr_mulW : RR K rvMulW dMulW := rr_I fun _ _ _ => rfl
theorem rr_mulA : RR K rvMulA dMulA := fun x y μ Q2 q I H vx vy hA rx ry Q k => by
  rcases q with q | q | q
  · exact .inl (rr_mul x y μ Q2 q I H vx vy hA rx ry Q k)
  · exact .inr (.inl (rr_mulW x y μ Q2 q I H vx vy hA rx ry Q k))
  · exact .inr (.inr (rr_rep x y μ Q2 q I H vx vy hA rx ry Q k))
theorem e_mulA (ha : PE2 X a ta ta2) (hb : PE2 X b tb tb2) : PE2 X (.BinOp a .Mult b pos) (tOp rvMulA ta tb) (dOp dMulA ta2 tb2) := e_op (opOr op_mul (opOr op_mulW op_rep)) rr_mulA ha hb
theorem w_mulI {i j : Int} (c : CMul i j) (q : Q (.int (i * j)) μ) : dMulA (.int i) (.int j) μ Q := .inl ⟨i, j, rfl, rfl, c, q⟩
theorem w_mulIW {i j : Int} (c : CMulW i j) (q : Q (.int (i * j)) μ) : dMulA (.int i) (.int j) μ Q := .inr (.inl ⟨i, j, rfl, rfl, c, q⟩)
theorem w_mulL {x : D} {xs : List D} {k : Int} (e1 : asL μ x = some xs) (h1 : -(2 ^ 63) ≤ k) (h2 : k < 2 ^ 63) (q : dNewL (List.replicate k.toNat xs).flatten μ Q) : dMulA x (.int k) μ Q := .inr (.inr ⟨xs, k, e1, rfl, h1, h2, q⟩)
/-- what is made stays, if it is a list -/
def dFzLK (Q : DK) : DK := fun d μ1 => Q d μ1 ∨ ∃ p ds, d = .adr p ∧ μ1 p = some (.lst ds) ∧ Q (.lst ds) (mdel μ1 p)
def dFzL (t : TE2) : TE2 := fun ρ μ Q => t ρ μ (dFzLK Q)
theorem w_fzL (h : te2 ρ μ (dFzLK Q)) : dFzL te2 ρ μ Q := h
theorem w_fzL0 {d : D} (h : Q d μ) : dFzLK Q d μ := .inl h
theorem w_fzL1 {p : Addr} {ds : List D} (h : μ p = none) (q : Q (.lst ds) μ) : dFzLK Q (.adr p) (mup μ p (.lst ds)) := .inr ⟨p, ds, rfl, mup_same, by rw [mdel_mup h]; exact q⟩
theorem re_fzL (h : RE K te te2) : RE K te (dFzL te2) := fun ρ μ Q2 q I σ H hA hS Q g => h ρ μ _ q I σ H hA hS _ fun d μ1 v I1 H1 q1 a1 k1 r1 => by
  rcases q1 with q1 | ⟨p, ds, rfl, hp, q1⟩
  · exact g _ _ _ _ _ q1 a1 k1 r1
  · obtain ⟨hI, ho, h1, vs, rfl, h2⟩ := a1.own p _ hp
    exact g _ _ _ _ _ q1 (a1.frz hp h1) (k1.trans (Kp.frz hp hI)) ⟨p, vs, r1, upd_same, h2.mono (Exx.new hI)⟩
theorem e_fzL (h : PE2 X e te te2) : PE2 X e te (dFzL te2) := ⟨h.pe, re_fzL h.re⟩
/-- a comprehension at a name: kept as it is -/
theorem s_setLcF {i : Nat} {y : Str} {py spos : Pos} {elt tg iter : Expr} {ifs : List Expr} {scope : Scope} {own : List (Str × Nat)} {wi : TI} {wi2 : TI2} {g2 : TG2} {js : List Nat} (hc : X.calm = true) (hN : X.N.Nodup) (hy : X.N[i]? = some y) (hyl : X.env.scope.names.lookup y = some .local)
    (hsw : swapsWith (.ListComp elt [⟨tg, iter, ifs, 0⟩] scope pos) (some (.Name y py)) spos.line X.env = pure true) (hi : PI2 X tg iter wi wi2) (ok : BlkOk X.N X.env.scope scope own)
    (hg : Blk X scope fun X => ∃ g, PG2 X tg g g2 js) (ht : Blk X scope fun X => ∃ tt, PTs2 X ifs tt tt2) (he : Blk X scope fun X => ∃ te, PE2 X elt te te2) (hj : ∀ j ∈ js, j ∈ own.map (·.2) := by decide) (hs : ∀ x, foldedSetIterable iter X.env x = pure x := by intro _; rfl) :
    PS2 X (.Assign [.Name y py] (.ListComp elt [⟨tg, iter, ifs, 0⟩] scope pos) spos) (tAsg (tLc wi (gOf X.K g2 js) (ttOf X.K tt2) (teOf X.K te2) (own.map (·.2))) (gName i)) (dAsg (dFzL (dLc wi2 g2 tt2 te2 (own.map (·.2)))) (gN i)) :=
  ⟨ps_lc hc hN hy hyl hsw hi ok hg ht he hs, re_asg (re_fzL (re_lc hi.re rg_can only_can rt_can re_can hj)) (re_gN i)⟩
/-- a power of two -/
theorem w_shl1 {n : Nat} (h : n ≤ 1000000) (q : Q (.int ((2 ^ n : Nat) : Int)) μ) : dShl (.int 1) (.int (n : Int)) μ Q := ⟨1, n, rfl, rfl, ⟨by omega, by omega, by decide⟩, by
  have e : (1 : Int) * 2 ^ ((n : Int)).toNat = ((2 ^ n : Nat) : Int) := by simp
  show Q (.int ((1 : Int) * 2 ^ ((n : Int)).toNat)) μ
  rw [e]; exact q⟩
theorem fn_same {P : Program} {w : World} {mg : Str → Option Value} {base : Heap} {k : Nat} {f : Addr} {fd fd' : FuncData} {ps : List Str} {sp : Sp} {oc oc' : Value} {od od' : Option Addr} {osl osl' : Array (Option Value)} (F : FnOk P w K mg base CX0 k f fd ps sp) (h : K.lookup f = some ⟨oc, od, .func fd, osl⟩) (h' : K.lookup f = some ⟨oc', od', .func fd', osl'⟩) : FnOk P w K mg base CX0 k f fd' ps sp := by
  rw [h] at h'
  cases h'
  exact F
end
/-! ### looking up what is owned -/
theorem look_ne {μ : Mu} {a b : Addr} {m : MO} {r : Option MO} (h : b ≠ a) (h' : μ b = r) : mup μ a m b = r := by rw [mup_ne h]; exact h'
theorem ne_new {μ : Mu} {a b : Addr} {m : MO} (h : μ a = none) (h' : μ b = some m) : b ≠ a := fun z => by rw [z, h] at h'; cases h'
theorem ne_new' {μ : Mu} {a b : Addr} {m : MO} (h : μ a = none) (h' : μ b = some m) : a ≠ b := fun z => by rw [← z, h] at h'; cases h'
theorem none_of {μ : Mu} {a b : Addr} {m : MO} (h : mup μ a m b = none) : μ b = none := by
  by_cases e : b = a
  · subst e; rw [mup_same] at h; cases h
  · rw [mup_ne e] at h; exact h
theorem ne_of_mup {μ : Mu} {a b : Addr} {m : MO} (h : mup μ a m b = none) : b ≠ a := fun e => by subst e; rw [mup_same] at h; cases h
theorem asL_adr {μ : Mu} {p : Addr} {ds : List D} (h : μ p = some (.lst ds)) : asL μ (.adr p) = some ds := by simp [asL, h]
theorem asS_adr {μ : Mu} {p : Addr} {ds : List D} (h : μ p = some (.lst ds)) : asS μ (.adr p) = some ds := asL_adr h
theorem tyD_lst {μ : Mu} {p : Addr} {ds : List D} (h : μ p = some (.lst ds)) : tyD μ (.adr p) = some "list" := by simp [tyD, h]
theorem tyD_dk {μ : Mu} {p : Addr} {kvs : List (Key × D)} (h : μ p = some (.dk kvs)) : tyD μ (.adr p) = some "dict" := by simp [tyD, h]
theorem rsv_lst {μ : Mu} {p : Addr} {ds : List D} (h : μ p = some (.lst ds)) : rsv μ (.adr p) = .lst ds := by simp [rsv, h]
theorem sz_le {n : Nat} (h : n ≤ 10000000) : n ≤ sizeLine := Nat.le_trans h (by decide)
theorem sz_lt {n : Nat} (h : n < 10000000) : n < sizeLine := Nat.lt_of_lt_of_le h (by decide)
theorem cmul_l {i j : Int} (h1 : -18446744073709551616 < i) (h2 : i < 18446744073709551616) : CMul i j := .inl ⟨by omega, by omega⟩
theorem cmul_r {i j : Int} (h1 : -18446744073709551616 < j) (h2 : j < 18446744073709551616) : CMul i j := .inr ⟨by omega, by omega⟩
theorem cdiv_small {i j : Int} (h1 : 0 < j) (h2 : j < 1606938044258990275541962092341162602522202993782792835301376) : CDivW i j := wide_div (b := 200) h1 (by omega) (by decide) (by decide)
theorem cpow_small {i j : Int} (h1 : 0 ≤ j) (h2 : j ≤ 1000000) (h3 : i.natAbs < 2 ^ 64) : CPow i j := ⟨h1, h2, h3⟩
theorem atI_ex {α : Type} {xs : List α} {k : Int} (h0 : 0 ≤ k) (h1 : k < xs.length) : ∃ x, atI xs k = some x ∧ x ∈ xs ∧ xs[k.toNat]? = some x := by
  have hk : k.toNat < xs.length := by omega
  have e : k = ((k.toNat : Nat) : Int) := by omega
  refine ⟨xs[k.toNat], ?_, List.getElem_mem _, List.getElem?_eq_getElem hk⟩
  generalize k.toNat = j at hk e
  subst e
  exact atI_nat (List.getElem?_eq_getElem hk)
end Y

set_option Elab.async false
set_option linter.all false
set_option maxRecDepth 100000
set_option maxHeartbeats 4000000
namespace Y
open PySem PySem.Spec PyProof.Rows L2
section
variable {X : Cx} {K : PySem.W.Frag} {a b c e o : Expr} {es rest : List Expr} {ta tb tc te to : TE} {ta2 tb2 tc2 te2 to2 : TE2} {pos apos cpos p tpos : Pos} {tt tu : TT} {tt2 tu2 : TT2} {tl : TA} {tl2 : TA2} {x : Str}
variable {ρ : Env2} {μ : Mu} {Q : DK} {T F : Mu → Prop}
theorem eqv_self {x y : D} (e : x = y) (h : D.shp 64 x = true) : PyData.eqv x.py y.py = true := by
  subst e
  exact SeqAt.eqv_refl _ (shp_py h).1
/-- sorted, of whole numbers or of texts -/
def dSorted : DRC := fun xs μ Q => (∃ (x : D) (ns : List Int), xs = [x] ∧ asL μ x = some (ns.map D.int) ∧ ns.length < 64 ∧ ∀ (ns' : List Int) (p : Addr), ns'.Perm ns → ns'.Pairwise (· ≤ ·) → μ p = none → Q (.adr p) (mup μ p (.lst (ns'.map D.int)))) ∨
  ∃ (x : D) (ns : List Str), xs = [x] ∧ asL μ x = some (ns.map D.str) ∧ ns.length < 64 ∧ ∀ (ns' : List Str) (p : Addr), ns'.Perm ns → sortedS ns' = true → μ p = none → Q (.adr p) (mup μ p (.lst (ns'.map D.str)))
theorem w_sortedI {x : D} (ns : List Int) (h : asL μ x = some (ns.map D.int)) (h2 : ns.length < 64) (q : ∀ (ns' : List Int) (p : Addr), ns'.Perm ns → ns'.Pairwise (· ≤ ·) → μ p = none → Q (.adr p) (mup μ p (.lst (ns'.map D.int)))) : dSorted [x] μ Q := .inl ⟨x, ns, rfl, h, h2, q⟩
theorem w_sortedS {x : D} (ns : List Str) (h : asL μ x = some (ns.map D.str)) (h2 : ns.length < 64) (q : ∀ (ns' : List Str) (p : Addr), ns'.Perm ns → sortedS ns' = true → μ p = none → Q (.adr p) (mup μ p (.lst (ns'.map D.str)))) : dSorted [x] μ Q := .inr ⟨x, ns, rfl, h, h2, q⟩
theorem crOr {f : Value} {r r' : List V → Hp → VK → Prop} (h : CallR X f r) (h' : CallR X f r') : CallR X f (fun xs H Q => r xs H Q ∨ r' xs H Q) := by
  intro pins s σ H xs us Q I rr q
  rcases q with q | q
  · exact h pins s σ H xs us Q I rr q
  · exact h' pins s σ H xs us Q I rr q
abbrev rvSorted (K : PySem.W.Frag) : List V → Hp → VK → Prop := fun xs H Q => rSorted K xs H Q ∨ rSortedS K xs H Q
theorem rc_sorted : RC K (rvSorted K) dSorted := fun xs μ Q2 q I H vs hA r Q k => by
  rcases q with ⟨x, ns, rfl, h, h2, q⟩ | ⟨x, ns, rfl, h, h2, q⟩
  · obtain ⟨v, rfl, e⟩ := r.one_inv
    obtain ⟨p, ws, rfl, h3, h4⟩ := asL_at hA e h
    rw [h4.ints_inv] at h3
    exact .inl ⟨p, ns, rfl, SqL.of h3, h2, fun ns' p' a b c => k _ _ _ _ _ (q ns' p' a b (hA.noM c)) (hA.got c ⟨_, rfl, RpA.ints ns'⟩) (Kp.got c) rfl⟩
  · obtain ⟨v, rfl, e⟩ := r.one_inv
    obtain ⟨p, ws, rfl, h3, h4⟩ := asL_at hA e h
    rw [h4.strs_inv] at h3
    exact .inr ⟨p, ns, rfl, SqL.of h3, h2, fun ns' p' a b c => k _ _ _ _ _ (q ns' p' a b (hA.noM c)) (hA.got c ⟨_, rfl, RpA.strs ns'⟩) (Kp.got c) rfl⟩
theorem e_sorted (hg : Gl X "sorted") (hm : X.mg "sorted" = none) (ha : PA2 X [e] tl tl2) (hv : bootBuiltins "sorted" = some (.builtin "sorted") := by decide +kernel) (he : starEach [e] X.env = (false, eval e X.env) :: starEach [] X.env := by rfl) : PE2 X (.Call (.Name "sorted" p) [e] [] pos) (tCB (rvSorted X.K) tl) (dCB dSorted tl2) :=
  e_cb (crOr cr_sorted cr_sortedS) rc_sorted hg hm hv ha (he := he)
end
end Y

set_option Elab.async false
set_option linter.all false
set_option maxRecDepth 100000
set_option maxHeartbeats 4000000
namespace Y
open PySem PySem.Spec PyProof.Rows L2
section
variable {X : Cx} {K : PySem.W.Frag} {a b c e o : Expr} {es rest : List Expr} {ta tb tc te to : TE} {ta2 tb2 tc2 te2 to2 : TE2} {pos apos cpos p tpos : Pos} {tt tu : TT} {tt2 tu2 : TT2} {tl : TA} {tl2 : TA2} {x : Str}
variable {ρ : Env2} {μ : Mu} {Q : DK} {T F : Mu → Prop} {ts2 : TS2}
theorem w_turnE {G : Mu → Prop} {g : TG2} {d : D} {l xs : List D} {n b c : Env2 → Mu → Prop} {r : DK} (e : l = d :: xs) (h : G μ) (q : g d ρ μ fun ρ2 μ2 => ts2 ⟨Cl (dTurns G g ts2 ⟨n, r, b, c⟩ xs), r, n, Cl (dTurns G g ts2 ⟨n, r, b, c⟩ xs)⟩ ρ2 μ2) : dTurns G g ts2 ⟨n, r, b, c⟩ l ρ μ := by subst e; exact w_turn h q
theorem w_turn0E {G : Mu → Prop} {g : TG2} {l : List D} {n b c : Env2 → Mu → Prop} {r : DK} (e : l = []) (h : G μ) (q : n ρ μ) : dTurns G g ts2 ⟨n, r, b, c⟩ l ρ μ := by subst e; exact w_turn0 h q
theorem w_lcs0E {G : Mu → Prop} {g : TG2} {l acc : List D} (e : l = []) (h : G μ) (q : ∀ p, μ p = none → Q (.adr p) (mup μ p (.lst acc))) : dLcs G g tt2 te2 ρ Q l acc μ := by subst e; exact w_lcs0 h q
theorem w_lcsE {G : Mu → Prop} {g : TG2} {l acc xs : List D} {x : D} (e : l = x :: xs) (h : G μ) (q : g x ρ μ fun ρ2 μ2 => tt2 ρ2 μ2 (fun μ3 => te2 ρ2 μ3 (dLcK G g tt2 te2 ρ Q xs acc)) (fun μ3 => dLcs G g tt2 te2 ρ Q xs acc μ3)) : dLcs G g tt2 te2 ρ Q l acc μ := by subst e; exact w_lcs h q
theorem w_gNilE {l : List D} {QE : Env2 → Mu → Prop} (e : l = []) (q : QE ρ μ) : gNil2 l ρ μ QE := by subst e; exact w_gNil q
theorem w_gConsE {t : TG2} {u : TGs2} {d : D} {l r : List D} {QE : Env2 → Mu → Prop} (e : l = d :: r) (h : t d ρ μ fun ρ1 μ1 => u r ρ1 μ1 QE) : gCons2 t u l ρ μ QE := by subst e; exact w_gCons h
end
end Y

set_option Elab.async false
set_option linter.all false
set_option maxRecDepth 100000
set_option maxHeartbeats 4000000
namespace Y
open PySem PySem.Spec PyProof.Rows L2
/-! ### dicts with ints and texts as keys -/
def kD : Key → D
  | .inl i => .int i
  | .inr x => .str x
def valD : List (Key × D) → Key → Option D
  | [], _ => none
  | (k', v) :: r, k => if k' = k then some v else valD r k
def putD (kvs : List (Key × D)) (k : Key) (v : D) : List (Key × D) :=
  if (kvs.any fun kv => decide (kv.1 = k)) = true then kvs.map (fun kv => if kv.1 = k then (kv.1, v) else kv) else kvs ++ [(k, v)]
def mergeD : List (Key × D) → List (Key × D) → List (Key × D)
  | kvs, [] => kvs
  | kvs, (k, v) :: r => mergeD (putD kvs k v) r
section
variable {K : PySem.W.Frag} {I : Hp}
theorem rp_kD {k : Key} {v : V} (h : Rp K I (kD k) v) : v = kV k := by
  cases k <;> exact h
theorem rp_kV {k : Key} : Rp K I (kD k) (kV k) := by
  cases k <;> rfl
theorem valD_rp {k : Key} : ∀ {kvs : List (Key × D)} {hvs : List (Key × V)}, RpK K I kvs hvs → match valD kvs k with | some d => ∃ v, valV hvs k = some v ∧ Rp K I d v | none => valV hvs k = none
  | [], _, h => by cases h; exact rfl
  | (k', d') :: r, _, h => by
    cases h with
    | @cons _ q _ qs h t =>
      have ih := valD_rp (k := k) t
      show match (if k' = k then some d' else valD r k) with | some d => ∃ v, valV (q :: qs) k = some v ∧ Rp K I d v | none => valV (q :: qs) k = none
      by_cases e : k' = k
      · rw [if_pos e]
        exact ⟨q.2, valV_pos (h.1.symm.trans e), h.2⟩
      · rw [if_neg e, valV_neg (fun z => e (h.1.trans z))]
        exact ih
theorem rpK_any {k : Key} : ∀ {kvs : List (Key × D)} {hvs : List (Key × V)}, RpK K I kvs hvs → (kvs.any fun kv => decide (kv.1 = k)) = (hvs.any fun kv => decide (kv.1 = k))
  | [], _, h => by cases h; rfl
  | p :: r, _, h => by
    cases h with
    | @cons _ q _ qs h t => rw [List.any_cons, List.any_cons, rpK_any t, h.1]
theorem rpK_map {k : Key} {d : D} {v : V} (rv : Rp K I d v) : ∀ {kvs : List (Key × D)} {hvs : List (Key × V)}, RpK K I kvs hvs → RpK K I (kvs.map fun kv => if kv.1 = k then (kv.1, d) else kv) (hvs.map fun kv => if kv.1 = k then (kv.1, v) else kv)
  | [], _, h => by cases h; exact .nil
  | p :: r, _, h => by
    cases h with
    | @cons _ q _ qs h t =>
      rw [List.map_cons, List.map_cons]
      refine .cons ?_ (rpK_map rv t)
      by_cases e : p.1 = k
      · rw [if_pos e, if_pos (h.1.symm.trans e)]; exact ⟨h.1, rv⟩
      · rw [if_neg e, if_neg (fun z => e (h.1.trans z))]; exact h
theorem rpK_snoc {k : Key} {d : D} {v : V} (rv : Rp K I d v) : ∀ {kvs : List (Key × D)} {hvs : List (Key × V)}, RpK K I kvs hvs → RpK K I (kvs ++ [(k, d)]) (hvs ++ [(k, v)])
  | [], _, h => by cases h; exact .cons ⟨rfl, rv⟩ .nil
  | p :: r, _, h => by
    cases h with
    | @cons _ q _ qs h t => exact .cons h (rpK_snoc rv t)
theorem rpK_put {k : Key} {d : D} {v : V} {kvs : List (Key × D)} {hvs : List (Key × V)} (h : RpK K I kvs hvs) (rv : Rp K I d v) : RpK K I (putD kvs k d) (putK hvs k v) := by
  unfold putD putK
  rw [rpK_any h]
  split
  · exact rpK_map rv h
  · exact rpK_snoc rv h
theorem rpK_merge : ∀ {more kvs : List (Key × D)} {hmore hvs : List (Key × V)}, RpK K I more hmore → RpK K I kvs hvs → RpK K I (mergeD kvs more) (mergeK hvs hmore)
  | [], _, _, _, h, g => by cases h; exact g
  | (k', d') :: r, _, _, _, h, g => by
    cases h with
    | @cons _ q _ qs h t =>
      have := rpK_merge t (rpK_put (k := k') g h.2)
      rw [show mergeK _ (q :: qs) = mergeK (putK _ q.1 q.2) qs from rfl, ← h.1]
      exact this
theorem rpK_length : ∀ {kvs : List (Key × D)} {hvs : List (Key × V)}, RpK K I kvs hvs → kvs.length = hvs.length
  | [], _, h => by cases h; rfl
  | p :: r, _, h => by
    cases h with
    | @cons _ q _ qs h t => rw [List.length_cons, List.length_cons, rpK_length t]
theorem rpK_kv : ∀ {kvs : List (Key × D)} {ps : List (V × V)}, Paired (fun p q => Rp K I p.1 q.1 ∧ Rp K I p.2 q.2) (kvs.map fun kv => (kD kv.1, kv.2)) ps → ∃ hvs : List (Key × V), ps = hvs.map (fun kv => (kV kv.1, kv.2)) ∧ RpK K I kvs hvs
  | [], _, h => by rw [List.map_nil] at h; cases h; exact ⟨[], rfl, .nil⟩
  | p :: r, _, h => by
    rw [List.map_cons] at h
    cases h with
    | @cons _ q _ qs h t =>
      obtain ⟨hvs, rfl, g⟩ := rpK_kv t
      refine ⟨(p.1, q.2) :: hvs, ?_, .cons ⟨rfl, h.2⟩ g⟩
      rw [List.map_cons, ← rp_kD h.1]
end
section
variable {X : Cx} {K : PySem.W.Frag} {a b c e o i : Expr} {es rest : List Expr} {ta tb tc te to ti : TE} {ta2 tb2 tc2 te2 to2 ti2 : TE2} {pos apos cpos p tpos : Pos} {tt tu : TT} {tt2 tu2 : TT2} {tl : TA} {tl2 : TA2} {x : Str}
variable {ρ : Env2} {μ : Mu} {Q : DK} {T F : Mu → Prop} {st : Stmt} {k : Nat}
def dDGet : DR2 := fun x y μ Q => ∃ a kvs k d, x = .adr a ∧ μ a = some (.dk kvs) ∧ y = kD k ∧ valD kvs k = some d ∧ Q d μ
theorem w_dgetS {p : Addr} {kvs : List (Key × D)} {z : Str} {d : D} (h : μ p = some (.dk kvs)) (h2 : valD kvs (.inr z) = some d) (q : Q d μ) : dDGet (.adr p) (.str z) μ Q := ⟨p, kvs, .inr z, d, rfl, h, rfl, h2, q⟩
theorem w_dgetI {p : Addr} {kvs : List (Key × D)} {z : Int} {d : D} (h : μ p = some (.dk kvs)) (h2 : valD kvs (.inl z) = some d) (q : Q d μ) : dDGet (.adr p) (.int z) μ Q := ⟨p, kvs, .inl z, d, rfl, h, rfl, h2, q⟩
theorem at_dk {I H : Hp} {kvs : List (Key × D)} {p : Addr} (hA : At K μ I H) (h : μ p = some (.dk kvs)) : ∃ hvs, H p = some (.dK hvs) ∧ RpK K I kvs hvs := by
  obtain ⟨_, ho, h1, hvs, rfl, r⟩ := hA.own p _ h
  exact ⟨hvs, h1, r⟩
theorem e_dget (hr : Room k X.A) (ho : PE2 X o to to2) (hi : PE2 X i ti ti2) (hs : NoSl i) : PE2 X (.Subscript o i pos) (tDGet to ti) (dOp dDGet to2 ti2) :=
  ⟨pe_dget (Nat.lt_of_le_of_lt (Nat.add_le_add_left (by decide) _) hr.units) ho.pe hi.pe hs, fun ρ μ Q2 q I σ H hA hS Q g => ho.re ρ μ _ q I σ H hA hS _ fun x μ1 vx I1 H1 q1 a1 k1 r1 => hi.re ρ μ1 _ q1 I1 σ H1 a1 (hS.mono k1.ex) _ fun y μ2 vy I2 H2 q2 a2 k2 r2 => by
    obtain ⟨p, kvs, k, d, rfl, h, rfl, e, q3⟩ := q2
    obtain ⟨hvs, h1, r⟩ := at_dk a2 h
    have hv := valD_rp (k := k) r
    rw [e] at hv
    obtain ⟨v, e1, rv⟩ := hv
    cases rp_kD r2
    exact ⟨p, v, r1, e1 ▸ DGet.k h1, g _ _ _ _ _ q3 a2 (k1.trans k2) rv⟩⟩
def dInD : DR2 := fun y x μ Q => ∃ a kvs k, x = .adr a ∧ μ a = some (.dk kvs) ∧ y = kD k ∧ Q (.bl (valD kvs k).isSome) μ
def dNotInD : DR2 := fun y x μ Q => ∃ a kvs k, x = .adr a ∧ μ a = some (.dk kvs) ∧ y = kD k ∧ Q (.bl (!(valD kvs k).isSome)) μ
theorem w_inDS {p : Addr} {kvs : List (Key × D)} {z : Str} (h : μ p = some (.dk kvs)) (q : Q (.bl (valD kvs (.inr z)).isSome) μ) : dInD (.str z) (.adr p) μ Q := ⟨p, kvs, .inr z, rfl, h, rfl, q⟩
theorem w_inDI {p : Addr} {kvs : List (Key × D)} {z : Int} (h : μ p = some (.dk kvs)) (q : Q (.bl (valD kvs (.inl z)).isSome) μ) : dInD (.int z) (.adr p) μ Q := ⟨p, kvs, .inl z, rfl, h, rfl, q⟩
theorem w_notInDS {p : Addr} {kvs : List (Key × D)} {z : Str} (h : μ p = some (.dk kvs)) (q : Q (.bl (!(valD kvs (.inr z)).isSome)) μ) : dNotInD (.str z) (.adr p) μ Q := ⟨p, kvs, .inr z, rfl, h, rfl, q⟩
theorem w_notInDI {p : Addr} {kvs : List (Key × D)} {z : Int} (h : μ p = some (.dk kvs)) (q : Q (.bl (!(valD kvs (.inl z)).isSome)) μ) : dNotInD (.int z) (.adr p) μ Q := ⟨p, kvs, .inl z, rfl, h, rfl, q⟩
theorem val_some {I : Hp} {kvs : List (Key × D)} {hvs : List (Key × V)} {k : Key} (r : RpK K I kvs hvs) : (valV hvs k).isSome = (valD kvs k).isSome := by
  have hv := valD_rp (k := k) r
  cases e : valD kvs k with
  | none => rw [e] at hv; rw [hv]; rfl
  | some d => rw [e] at hv; obtain ⟨v, e1, _⟩ := hv; rw [e1]; rfl
theorem re_inD (hi : RE K ti ti2) (ho : RE K to to2) : RE K (tDIn ti to) (dOp dInD ti2 to2) := fun ρ μ Q2 q I σ H hA hS Q g => hi ρ μ _ q I σ H hA hS _ fun x μ1 vx I1 H1 q1 a1 k1 r1 => ho ρ μ1 _ q1 I1 σ H1 a1 (hS.mono k1.ex) _ fun y μ2 vy I2 H2 q2 a2 k2 r2 => by
    obtain ⟨p, kvs, k, rfl, h, rfl, q3⟩ := q2
    obtain ⟨hvs, h1, r⟩ := at_dk a2 h
    cases rp_kD r1
    exact ⟨p, _, r2, DGet.k h1, g _ _ _ _ _ q3 a2 (k1.trans k2) (by rw [val_some r]; rfl)⟩
theorem re_notInD (hi : RE K ti ti2) (ho : RE K to to2) : RE K (tDNotIn ti to) (dOp dNotInD ti2 to2) := fun ρ μ Q2 q I σ H hA hS Q g => hi ρ μ _ q I σ H hA hS _ fun x μ1 vx I1 H1 q1 a1 k1 r1 => ho ρ μ1 _ q1 I1 σ H1 a1 (hS.mono k1.ex) _ fun y μ2 vy I2 H2 q2 a2 k2 r2 => by
    obtain ⟨p, kvs, k, rfl, h, rfl, q3⟩ := q2
    obtain ⟨hvs, h1, r⟩ := at_dk a2 h
    cases rp_kD r1
    exact ⟨p, _, r2, DGet.k h1, g _ _ _ _ _ q3 a2 (k1.trans k2) (by rw [val_some r]; rfl)⟩
theorem e_inD (hr : Room k X.A) (hi : PE2 X i ti ti2) (ho : PE2 X o to to2) (hm : behindInMarks .In o = false) : PE2 X (.Compare i [.In] [o] pos) (tDIn ti to) (dOp dInD ti2 to2) := ⟨pe_cmp (pc_din (Nat.lt_of_le_of_lt (Nat.add_le_add_left (by decide) _) hr.units) hi.pe ho.pe) hm, re_inD hi.re ho.re⟩
theorem e_notInD (hr : Room k X.A) (hi : PE2 X i ti ti2) (ho : PE2 X o to to2) (hm : behindInMarks .NotIn o = false) : PE2 X (.Compare i [.NotIn] [o] pos) (tDNotIn ti to) (dOp dNotInD ti2 to2) := ⟨pe_cmp (pc_dnotin (Nat.lt_of_le_of_lt (Nat.add_le_add_left (by decide) _) hr.units) hi.pe ho.pe) hm, re_notInD hi.re ho.re⟩
/-! ### a display -/
def dPairs : List (TE2 × TE2) → Env2 → Mu → (List (D × D) → Mu → Prop) → Prop
  | [], _, μ, Q => Q [] μ
  | (tk, tv) :: r, ρ, μ, Q => tk ρ μ fun x μ1 => tv ρ μ1 fun y μ2 => dPairs r ρ μ2 fun ps μ3 => Q ((x, y) :: ps) μ3
def dDispK (p : Addr) (Q : DK) : List (D × D) → Mu → Prop := fun ps μ2 => μ2 p = some (.dk []) ∧ ∃ kvs : List (Key × D), ps = kvs.map (fun kv => (kD kv.1, kv.2)) ∧ kvs.length ≤ 15 ∧ Q (.adr p) (mup μ2 p (.dk (mergeD [] kvs)))
def dDisp (trs : List (TE2 × TE2)) : TE2 := fun ρ μ Q => ∀ p, μ p = none → dPairs trs ρ (mup μ p (.dk [])) (dDispK p Q)
structure PD2 (X : Cx) (pos : Pos) (ks : List (Option Expr)) (vs : List Expr) (trs : List (TE × TE)) (trs2 : List (TE2 × TE2)) : Prop where
  pp : PPs X pos ks vs trs
  re : ∀ ρ μ Q2, dPairs trs2 ρ μ Q2 → ∀ I σ H, At X.K μ I H → Slots X.K I ρ σ → ∀ Q : List (V × V) → Hp → Prop,
    (∀ ps μ' vs I' H', Q2 ps μ' → At X.K μ' I' H' → Kp I μ H I' μ' H' → Paired (fun p q => Rp X.K I' p.1 q.1 ∧ Rp X.K I' p.2 q.2) ps vs → Q vs H') → tPairs trs σ H Q
theorem dd_nil : PD2 X pos [] [] [] [] := ⟨pps_nil, fun ρ μ Q2 q I σ H hA hS Q g => g _ _ _ _ _ q hA Kp.refl .nil⟩
theorem dd_cons {kx vx : Expr} {ks : List (Option Expr)} {vs : List Expr} {trs : List (TE × TE)} {trs2 : List (TE2 × TE2)} (hk : PE2 X kx ti ti2) (hv : PE2 X vx te te2) (h : PD2 X pos ks vs trs trs2) : PD2 X pos (some kx :: ks) (vx :: vs) ((ti, te) :: trs) ((ti2, te2) :: trs2) :=
  ⟨pps_cons hk.pe hv.pe h.pp, fun ρ μ Q2 q I σ H hA hS Q g => hk.re ρ μ _ q I σ H hA hS _ fun x μ1 wx I1 H1 q1 a1 k1 r1 => hv.re ρ μ1 _ q1 I1 σ H1 a1 (hS.mono k1.ex) _ fun y μ2 wy I2 H2 q2 a2 k2 r2 =>
    h.re ρ μ2 _ q2 I2 σ H2 a2 (hS.mono (k1.ex.trans k2.ex)) _ fun ps μ3 ws I3 H3 q3 a3 k3 r3 => g _ _ _ _ _ q3 a3 ((k1.trans k2).trans k3) (.cons ⟨(r1.mono k2.ex).mono k3.ex, r2.mono k3.ex⟩ r3)⟩
theorem e_dict {ks : List (Option Expr)} {vs : List Expr} {trs : List (TE × TE)} {trs2 : List (TE2 × TE2)} (h : PD2 X pos ks vs trs trs2) (hall : ks.all (·.isSome) = true := by rfl) (hl : ks.length = vs.length := by rfl) (h0 : ks ≠ [] := by simp) (h15 : ks.length ≤ 15 := by decide) : PE2 X (.Dict ks vs pos) (tDisp trs) (dDisp trs2) :=
  ⟨pe_disp h.pp hall hl h0 h15, fun ρ μ Q2 q I σ H hA hS Q g p hp => by
    have hm := hA.noM hp
    have a0 : At X.K (mup μ p (.dk [])) I (upd H p (.dK [])) := hA.got hp ⟨[], rfl, .nil⟩
    refine h.re ρ _ _ (q p hm) I σ _ a0 hS _ fun ps μ2 vs I2 H2 q2 a2 k2 r2 => ?_
    obtain ⟨e, kvs, rfl, l15, q3⟩ := q2
    obtain ⟨hvs, h1, r⟩ := at_dk a2 e
    cases r
    obtain ⟨hk, rfl, rk⟩ := rpK_kv r2
    refine ⟨h1, hk, rfl, by rw [← rpK_length rk]; exact l15, ?_⟩
    have rm := rpK_merge rk (.nil : RpK X.K I2 [] [])
    exact g _ _ _ _ _ q3 (a2.put e ⟨_, rfl, rm⟩) (((Kp.got hp).trans k2).trans (Kp.put e)) rfl⟩
theorem w_disp {trs : List (TE2 × TE2)} (h : ∀ p, μ p = none → dPairs trs ρ (mup μ p (.dk [])) (dDispK p Q)) : dDisp trs ρ μ Q := h
theorem w_pairs0 {QA : List (D × D) → Mu → Prop} (h : QA [] μ) : dPairs [] ρ μ QA := h
theorem w_pairs {trs : List (TE2 × TE2)} {QA : List (D × D) → Mu → Prop} (h : ti2 ρ μ fun x μ1 => te2 ρ μ1 fun y μ2 => dPairs trs ρ μ2 fun ps μ3 => QA ((x, y) :: ps) μ3) : dPairs ((ti2, te2) :: trs) ρ μ QA := h
theorem w_dispK {p : Addr} {ps : List (D × D)} (kvs : List (Key × D)) (h : μ p = some (.dk [])) (e : ps = kvs.map fun kv => (kD kv.1, kv.2)) (l : kvs.length ≤ 15) (q : Q (.adr p) (mup μ p (.dk (mergeD [] kvs)))) : dDispK p Q ps μ := ⟨h, kvs, e, l, q⟩
end
end Y

set_option Elab.async false
set_option linter.all false
set_option maxRecDepth 100000
set_option maxHeartbeats 4000000
namespace Y
open PySem PySem.Spec PyProof.Rows L2
mutual
/-- whole numbers, texts, None and rows of them: equal if and only if they are the same -/
def D.pln : D → Bool
  | .non => true
  | .int _ => true
  | .str _ => true
  | .tup ds => D.plnA ds
  | .lst ds => D.plnA ds
  | _ => false
def D.plnA : List D → Bool
  | [] => true
  | d :: ds => D.pln d && D.plnA ds
end
mutual
theorem eqv_pln : ∀ {x y : D}, D.pln x = true → D.pln y = true → (PyData.eqv x.py y.py = true ↔ x = y)
  | .non, y, h, g => by
    cases y <;> first | (cases g; done) | (constructor <;> intro e <;> first | rfl | cases e)
  | .int i, y, h, g => by
    cases y with
    | int j => show (i == j) = true ↔ _; rw [beq_iff_eq]; exact ⟨fun e => by rw [e], fun e => by cases e; rfl⟩
    | non => constructor <;> intro e <;> cases e
    | str _ => constructor <;> intro e <;> cases e
    | tup _ => constructor <;> intro e <;> cases e
    | lst _ => constructor <;> intro e <;> cases e
    | _ => cases g
  | .str i, y, h, g => by
    cases y with
    | str j => show (i == j) = true ↔ _; rw [beq_iff_eq]; exact ⟨fun e => by rw [e], fun e => by cases e; rfl⟩
    | non => constructor <;> intro e <;> cases e
    | int _ => constructor <;> intro e <;> cases e
    | tup _ => constructor <;> intro e <;> cases e
    | lst _ => constructor <;> intro e <;> cases e
    | _ => cases g
  | .tup xs, y, h, g => by
    cases y with
    | tup ys => show PyData.eqvAll (D.pyA xs) (D.pyA ys) = true ↔ _; rw [eqvA_pln h g]; exact ⟨fun e => by rw [e], fun e => by cases e; rfl⟩
    | non => constructor <;> intro e <;> cases e
    | int _ => constructor <;> intro e <;> cases e
    | str _ => constructor <;> intro e <;> cases e
    | lst _ => constructor <;> intro e <;> cases e
    | _ => cases g
  | .lst xs, y, h, g => by
    cases y with
    | lst ys => show PyData.eqvAll (D.pyA xs) (D.pyA ys) = true ↔ _; rw [eqvA_pln h g]; exact ⟨fun e => by rw [e], fun e => by cases e; rfl⟩
    | non => constructor <;> intro e <;> cases e
    | int _ => constructor <;> intro e <;> cases e
    | str _ => constructor <;> intro e <;> cases e
    | tup _ => constructor <;> intro e <;> cases e
    | _ => cases g
  | .bl _, _, h, _ => by cases h
  | .ty _, _, h, _ => by cases h
  | .adr _, _, h, _ => by cases h
  | .obj _ _ _, _, h, _ => by cases h
  | .scr _, _, h, _ => by cases h
theorem eqvA_pln : ∀ {xs ys : List D}, D.plnA xs = true → D.plnA ys = true → (PyData.eqvAll (D.pyA xs) (D.pyA ys) = true ↔ xs = ys)
  | [], [], _, _ => by constructor <;> intro _ <;> rfl
  | [], _ :: _, _, _ => by constructor <;> intro e <;> cases e
  | _ :: _, [], _, _ => by constructor <;> intro e <;> cases e
  | x :: xs, y :: ys, h, g => by
    unfold D.plnA at h g
    rw [Bool.and_eq_true] at h g
    show (PyData.eqv x.py y.py && PyData.eqvAll (D.pyA xs) (D.pyA ys)) = true ↔ _
    rw [Bool.and_eq_true, eqv_pln h.1 g.1, eqvA_pln h.2 g.2]
    exact ⟨fun e => by rw [e.1, e.2], fun e => by cases e; exact ⟨rfl, rfl⟩⟩
end
theorem plnA_all : ∀ {ds : List D}, (∀ d ∈ ds, D.pln d = true) → D.plnA ds = true
  | [], _ => rfl
  | d :: ds, h => by
    unfold D.plnA
    rw [h d List.mem_cons_self, plnA_all fun e he => h e (List.mem_cons_of_mem _ he)]; rfl
theorem shpA_all {n : Nat} : ∀ {ds : List D}, (∀ d ∈ ds, D.shp n d = true) → D.shpA n ds = true
  | [], _ => by cases n <;> rfl
  | d :: ds, h => by
    unfold D.shpA
    rw [h d List.mem_cons_self, shpA_all fun e he => h e (List.mem_cons_of_mem _ he)]; rfl
theorem eqv_dec {x y : D} (h : D.pln x = true) (g : D.pln y = true) [Decidable (x = y)] : PyData.eqv x.py y.py = decide (x = y) := by
  have e := eqv_pln h g
  by_cases z : x = y
  · rw [decide_eq_true z]; exact e.mpr z
  · rw [decide_eq_false z]
    cases q : PyData.eqv x.py y.py with
    | false => rfl
    | true => exact absurd (e.mp q) z
/-- whole numbers -/
abbrev intsD (ns : List Int) : D := .lst (ns.map D.int)
abbrev natsD (ns : List Nat) : D := .lst (ns.map fun n : Nat => D.int (n : Int))
theorem shp_nats {ns : List Nat} : D.shp 64 (natsD ns) = true := shpA_all (n := 63) fun d h => by
  simp only [List.mem_map] at h
  obtain ⟨i, _, rfl⟩ := h; rfl
theorem pln_nats {ns : List Nat} : D.pln (natsD ns) = true := plnA_all fun d h => by
  simp only [List.mem_map] at h
  obtain ⟨i, _, rfl⟩ := h; rfl
theorem nats_inj : ∀ {a b : List Nat}, a.map (fun n : Nat => D.int (n : Int)) = b.map (fun n : Nat => D.int (n : Int)) → a = b
  | [], [], _ => rfl
  | [], _ :: _, h => by cases h
  | _ :: _, [], h => by cases h
  | x :: a, y :: b, h => by
    rw [List.map_cons, List.map_cons] at h
    injection h with h1 h2
    injection h1 with h1
    rw [nats_inj h2, Int.ofNat.inj h1]
theorem eqv_nats {a b : List Nat} : PyData.eqv (natsD a).py (natsD b).py = decide (a = b) := by
  have e := eqv_pln (pln_nats (ns := a)) (pln_nats (ns := b))
  by_cases z : a = b
  · rw [decide_eq_true z]; exact e.mpr (by rw [z])
  · rw [decide_eq_false z]
    cases q : PyData.eqv (natsD a).py (natsD b).py with
    | false => rfl
    | true => exact absurd (nats_inj (by injection e.mp q)) z
theorem Sub.del {μ μ' : Mu} {p : Addr} (h : Sub μ μ') (hp : μ p = none) : Sub μ (mdel μ' p) := fun b m e => by
  have hb : b ≠ p := fun z => by rw [z, hp] at e; cases e
  rw [mdel_ne hb]; exact h b m e
def keyD : D → Key
  | .str x => .inr x
  | .int i => .inl i
  | _ => .inl 0
def prKs : List (D × D) → List (Key × D)
  | [] => []
  | (x, y) :: r => (keyD x, y) :: prKs r
theorem w_dispE {μ : Mu} {Q : DK} {p : Addr} {ps : List (D × D)} (h : μ p = some (.dk [])) (e : ps = (prKs ps).map fun kv => (kD kv.1, kv.2)) (l : (prKs ps).length ≤ 15) (q : Q (.adr p) (mup μ p (.dk (mergeD [] (prKs ps))))) : dDispK p Q ps μ := w_dispK _ h e l q
theorem none_sub {μ μ' : Mu} {p : Addr} (s : Sub μ μ') (h : μ' p = none) : μ p = none := by
  cases q : μ p with
  | none => rfl
  | some m => rw [s _ _ q] at h; cases h
section
variable {ρ : Env2} {μ : Mu} {Q : DK} {tt2 : TT2} {te2 : TE2} {T F : Mu → Prop}
theorem br_eqv {A B : Prop} {x y : D} (h : D.pln x = true) (g : D.pln y = true) (t : x = y → A) (f : x ≠ y → B) : Br (PyData.eqv x.py y.py) A B := by
  cases q : PyData.eqv x.py y.py with
  | true => exact br_t (t ((eqv_pln h g).mp q))
  | false => exact br_f (f fun e => by rw [(eqv_pln h g).mpr e] at q; cases q)
/-- a comprehension by what holds between its turns -/
theorem w_lcInv {G : Mu → Prop} {g : TG2} (Iv : List D → List D → Mu → Prop) (hG : ∀ xs acc μ, Iv xs acc μ → G μ ∧ acc.length < sizeLine)
    (hs : ∀ x xs acc μ, Iv (x :: xs) acc μ → ∀ (N : DK) (N0 : Mu → Prop), (∀ d μ', Iv xs (acc ++ [d]) μ' → N d μ') → (∀ μ', Iv xs acc μ' → N0 μ') → g x ρ μ fun ρ2 μ2 => tt2 ρ2 μ2 (fun μ3 => te2 ρ2 μ3 N) N0)
    (hd : ∀ acc μ, Iv [] acc μ → ∀ p, μ p = none → Q (.adr p) (mup μ p (.lst acc))) : ∀ xs acc μ, Iv xs acc μ → dLcs G g tt2 te2 ρ Q xs acc μ
  | [], acc, μ, h => ⟨(hG _ _ _ h).1, hd acc μ h⟩
  | x :: xs, acc, μ, h => ⟨(hG _ _ _ h).1, hs x xs acc μ h _ _ (fun d μ' h' => ⟨(hG _ _ _ h).2, w_lcInv Iv hG hs hd xs _ μ' h'⟩) fun μ' h' => w_lcInv Iv hG hs hd xs acc μ' h'⟩
/-- .. of one thing for each item, where nothing changes -/
theorem w_lcMap {G : Mu → Prop} {g : TG2} (f : D → D) (hG : G μ) {xs : List D} (hl : xs.length < sizeLine) (hs : ∀ x ∈ xs, ∀ (N : DK) (N0 : Mu → Prop), N (f x) μ → g x ρ μ fun ρ2 μ2 => tt2 ρ2 μ2 (fun μ3 => te2 ρ2 μ3 N) N0)
    (hd : ∀ p, μ p = none → Q (.adr p) (mup μ p (.lst (xs.map f)))) : dLcs G g tt2 te2 ρ Q xs [] μ := by
  refine w_lcInv (fun ys acc μ' => μ' = μ ∧ (∃ zs, zs ++ ys = xs ∧ acc = zs.map f)) ?_ ?_ ?_ xs [] μ ⟨rfl, [], rfl, rfl⟩
  · rintro ys acc _ ⟨rfl, zs, rfl, rfl⟩
    refine ⟨hG, ?_⟩
    rw [List.length_append] at hl
    rw [List.length_map]; omega
  · rintro x ys acc _ ⟨rfl, zs, rfl, rfl⟩ N N0 h _
    refine hs x (List.mem_append_right _ List.mem_cons_self) N N0 (h _ _ ⟨rfl, zs ++ [x], by simp, by simp⟩)
  · rintro acc _ ⟨rfl, zs, rfl, rfl⟩ p hp
    rw [List.append_nil] at hd
    exact hd p hp
end
end Y

set_option Elab.async false
set_option linter.all false
set_option maxRecDepth 100000
set_option maxHeartbeats 4000000
namespace PySem
open Sem (wp)
open AutoSeq1 (wpAny_loadPart')
section
variable {prog : Program} {w : World} {A : Around} {E : Value → Shared → Prop} {s : Shared}
theorem code_tuple_new_text {x : Str} {t : Tok} {Q₁ : Value → Shared → Prop} (hh : A.handled = none) (hn : x.cps.size ≤ sizeLine)
    (h : ∀ (s' : Shared) (acc : Array Value), (∀ b o, s.heap.get? b = some o → s'.heap.get? b = some o) → s'.gens = s.gens → s'.drawn = s.drawn → s'.os = s.os → ItemsOf (SignAt x) acc x.cps.size →
      Q₁ (.ref s'.heap.objs.size) { s' with heap := s'.heap.push { cls := .type "tuple", data := .seq acc } }) :
    codeAny (model prog w) A (.call (.builtin "tuple.__new__") ⟨[.type "tuple", .str x t], []⟩) (wants Q₁ E) s := by
  refine codeAny_of_tree ?_
  show wpAny _ A.in1 (do checkBuiltinCall "tuple.__new__" ⟨[.type "tuple", .str x t], []⟩; again (.builtin "tuple.__new__" ⟨[.type "tuple", .str x t], []⟩)) _ _ s
  refine wpAny_bind (wpAny_of_eq (F.newCall_tuple_1 _) (wpAny_pure ⟨plainId_quiet F.plain_tuple_new _, codeAny_builtin F.entry_tuple_new ?_⟩))
  rw [Around.under_plainId F.plain_tuple_new _]
  have hsub := sub_tuple_self
  have hinit := init_tuple_lookup
  have hmh := madeHere_tuple
  have hTI : s.TypeIs (.str x t) "str" := rfl
  have hh1 : A.in1.handled = none := hh
  wp_walk using wpAny_typeOf hTI, wpAny_collect_str (A := A.in1) (hn := hn) hh1 x t
  intro s' acc hk hg hd ho hacc
  show wpAny _ _ (Builtin.Tuple.tupleExact acc.toList.toArray >>= fun v => ret v) _ _ _
  unfold Builtin.Tuple.tupleExact
  refine wpAny_bind (wpAny_newObj_type ?_ (by show acc.toList.toArray.size ≤ sizeLine; simp only [Array.toArray_toList]; rw [hacc.1]; exact hn))
  refine wpAny_pure ?_
  have e : acc.toList.toArray = acc := by simp
  rw [e]
  exact h s' acc hk hg hd ho hacc
theorem call_tuple_text {x : Str} {t : Tok} {Q : Value → Shared → Prop} (hh : A.handled = none) (hn : x.cps.size ≤ sizeLine)
    (hQ : ∀ (s' : Shared) (acc : Array Value), (∀ b o, s.heap.get? b = some o → s'.heap.get? b = some o) → s'.gens = s.gens → s'.drawn = s.drawn → s'.os = s.os → ItemsOf (SignAt x) acc x.cps.size →
      Q (.ref s'.heap.objs.size) { s' with heap := s'.heap.push { cls := .type "tuple", data := .seq acc } }) :
    wpAny (model prog w) A (call (.type "tuple") [.str x t]) Q E s := by
  refine callType_codes (Q₁ := fun obj s₁ => s₁.TypeIs obj "tuple" ∧ Q obj s₁) F.called_tuple (F.typeCall_tuple_1 _) F.entry_object_init
    (code_tuple_new_text (A := A.in1) hh hn fun s' acc hk hg hd ho hacc => ⟨⟨_, Heap.get?_push_size _ rfl, rfl⟩, hQ s' acc hk hg hd ho hacc⟩) fun obj s₁ h₁ => ?_
  exact ⟨h₁.1, F.args_object_init_2 obj _, object_init_meets F.called_tuple.init.lookup F.called_tuple.made (by decide) prog w A.in1 _ s₁ ⟨h₁.1, rfl, h₁.2⟩⟩
end
end PySem
namespace Y
open PySem PySem.Spec PyProof.Rows L2
theorem asL_lst {μ : Mu} {ds : List D} : asL μ (.lst ds) = some ds := rfl
theorem asS_lst {μ : Mu} {ds : List D} : asS μ (.lst ds) = some ds := rfl
theorem asS_tup {μ : Mu} {ds : List D} : asS μ (.tup ds) = some ds := rfl
/-- the signs of a text -/
abbrev sgV (z : Str) : List V := z.cps.toList.map fun c => V.str ⟨#[c]⟩
abbrev sgD (z : Str) : List D := z.cps.toList.map fun c => D.str ⟨#[c]⟩
theorem vals_signs : ∀ {l : List Nat} {us : List Value}, us.length = l.length → (∀ (j : Nat) (v : Value), us[j]? = some v → ∃ (c : Nat) (u : Tok), l[j]? = some c ∧ v = Value.str ⟨#[c]⟩ u) → Vals (l.map fun c => V.str ⟨#[c]⟩) us
  | [], [], _, _ => .nil
  | [], _ :: _, h, _ => by cases h
  | _ :: _, [], h, _ => by cases h
  | c :: l, u :: us, h, g => by
    obtain ⟨c', t, e, rfl⟩ := g 0 u rfl
    cases e
    exact .cons ⟨t, rfl⟩ (vals_signs (Nat.succ.inj h) fun j v e => by simpa using g (j + 1) v (by simpa using e))
theorem vals_text {x : Str} {acc : Array Value} (h : ItemsOf (SignAt x) acc x.cps.size) : Vals (sgV x) acc.toList :=
  vals_signs (by rw [Array.length_toList, h.1, Array.length_toList]) fun j v e => by
    obtain ⟨c, u, e1, e2⟩ := h.2 j v (by rw [← Array.getElem?_toList]; exact e)
    exact ⟨c, u, by rw [Array.getElem?_toList]; exact e1, e2⟩
section
variable {X : Cx}
theorem call_listText (hc : X.calm = true) : CallR X (.type "list") (fun xs H Q => ∃ z : Str, xs = [.str z] ∧ z.length ≤ sizeLine ∧ ∀ l, H l = none → Q (.ref l) (upd H l (.lst (sgV z)))) := by
  intro pins s σ H xs us Q I r h
  obtain ⟨z, rfl, hz, q⟩ := h
  obtain ⟨u, rfl, t, rfl⟩ := vals1 r
  refine call_list_str (hn := hz) (I.ok.hd hc) z t fun h' tk acc c' hk hS hacc => ?_
  refine ⟨.ref s.heap.objs.size, _, I.laid (t' := tk) hk (Nat.le_refl _) (show ObjOk X.prog X.w _ h' _ (.lst (sgV z)) from ⟨?_, acc.toList, c', vals_text hacc, by rw [Array.toArray_toList]; exact hS⟩), rfl, q _ (I.hok.fresh (Nat.le_refl _))⟩
  rw [List.length_map, Array.length_toList]; exact hz
theorem call_tupText (hc : X.calm = true) : CallR X (.type "tuple") (fun xs H Q => ∃ z : Str, xs = [.str z] ∧ z.length ≤ sizeLine ∧ ∀ l, H l = none → Q (.ref l) (upd H l (.tup (sgV z)))) := by
  intro pins s σ H xs us Q I r h
  obtain ⟨z, rfl, hz, q⟩ := h
  obtain ⟨u, rfl, t, rfl⟩ := vals1 r
  refine call_tuple_text (I.ok.hd hc) hz fun s' acc hk hg hd ho hacc => ?_
  obtain ⟨h', g', d', tk, os⟩ := s'
  cases hg; cases hd; cases ho
  have I1 : Inv X pins σ H { s with heap := h', toks := tk } := I.kept (t' := tk) hk
  have hlen : acc.size ≤ sizeLine := by rw [hacc.1]; exact hz
  have I2 : Inv X pins σ (upd H h'.objs.size (.tup (sgV z))) { s with heap := h'.push { cls := .type "tuple", data := .seq acc }, toks := tk } :=
    I1.laid (t' := tk) (fun b o e => Heap.get?_push_of_some _ e) (Nat.le_refl _) (show ObjOk X.prog X.w _ _ _ (.tup (sgV z)) from ⟨by rw [List.length_map, Array.length_toList]; exact hz, acc.toList, vals_text hacc, by rw [Array.toArray_toList]; exact IsTup.new _ _⟩)
  exact ⟨.ref h'.objs.size, _, I2, rfl, q _ (I1.hok.fresh (Nat.le_refl _))⟩
section
variable {K : PySem.W.Frag} {a b c e o i : Expr} {es rest : List Expr} {ta tb tc te to ti : TE} {ta2 tb2 tc2 te2 to2 ti2 : TE2} {pos apos cpos p tpos : Pos} {tl : TA} {tl2 : TA2} {x : Str}
variable {ρ : Env2} {μ : Mu} {Q : DK}
theorem rpA_signs {I : Hp} : ∀ l : List Nat, RpA K I (l.map fun c => D.str ⟨#[c]⟩) (l.map fun c => V.str ⟨#[c]⟩)
  | [] => rfl
  | c :: l => ⟨_, _, rfl, rfl, rpA_signs l⟩
def dListText : DRC := fun xs μ Q => ∃ z : Str, xs = [.str z] ∧ z.length ≤ sizeLine ∧ ∀ p, μ p = none → Q (.adr p) (mup μ p (.lst (sgD z)))
theorem w_listText {z : Str} (h : z.length ≤ sizeLine) (q : ∀ p, μ p = none → Q (.adr p) (mup μ p (.lst (sgD z)))) : dListText [.str z] μ Q := ⟨z, rfl, h, q⟩
abbrev rvListText : List V → Hp → VK → Prop := fun xs H Q => ∃ z : Str, xs = [.str z] ∧ z.length ≤ sizeLine ∧ ∀ l, H l = none → Q (.ref l) (upd H l (.lst (sgV z)))
theorem e_listText (hc : X.calm = true) (hg : Gl X "list") (hm : X.mg "list" = none) (ha : PA2 X [e] tl tl2) (hv : bootBuiltins "list" = some (.type "list") := by decide +kernel) (he : starEach [e] X.env = (false, eval e X.env) :: starEach [] X.env := by rfl) : PE2 X (.Call (.Name "list" p) [e] [] pos) (tCB rvListText tl) (dCB dListText tl2) :=
  e_cty (call_listText hc) (fun xs μ Q2 q I H vs hA r Q k => by
    obtain ⟨z, rfl, h, q⟩ := q
    obtain ⟨v, rfl, e⟩ := r.one_inv
    cases (show v = _ from e)
    exact ⟨z, rfl, h, fun l hl => k _ _ _ _ _ (q l (hA.noM hl)) (hA.got hl ⟨_, rfl, rpA_signs _⟩) (Kp.got hl) rfl⟩) hg hm hv ha (he := he)
def dTupText : DRC := fun xs μ Q => ∃ z : Str, xs = [.str z] ∧ z.length ≤ sizeLine ∧ Q (.tup (sgD z)) μ
theorem w_tupText {z : Str} (h : z.length ≤ sizeLine) (q : Q (.tup (sgD z)) μ) : dTupText [.str z] μ Q := ⟨z, rfl, h, q⟩
abbrev rvTupText : List V → Hp → VK → Prop := fun xs H Q => ∃ z : Str, xs = [.str z] ∧ z.length ≤ sizeLine ∧ ∀ l, H l = none → Q (.ref l) (upd H l (.tup (sgV z)))
theorem e_tupText (hc : X.calm = true) (hg : Gl X "tuple") (hm : X.mg "tuple" = none) (ha : PA2 X [e] tl tl2) (hv : bootBuiltins "tuple" = some (.type "tuple") := by decide +kernel) (he : starEach [e] X.env = (false, eval e X.env) :: starEach [] X.env := by rfl) : PE2 X (.Call (.Name "tuple" p) [e] [] pos) (tCB rvTupText tl) (dCB dTupText tl2) :=
  e_cty (call_tupText hc) (fun xs μ Q2 q I H vs hA r Q k => by
    obtain ⟨z, rfl, h, q⟩ := q
    obtain ⟨v, rfl, e⟩ := r.one_inv
    cases (show v = _ from e)
    exact ⟨z, rfl, h, fun l hl => k _ _ _ _ _ q (hA.laid hl) (Kp.laid hl (hA.noI hl)) ⟨l, sgV z, rfl, .inl (.inl upd_same), rpA_signs _⟩⟩) hg hm hv ha (he := he)
/-- {} -/
def dDNew : TE2 := fun _ μ Q => ∀ p, μ p = none → Q (.adr p) (mup μ p (.dk []))
theorem w_dnew (q : ∀ p, μ p = none → Q (.adr p) (mup μ p (.dk []))) : dDNew ρ μ Q := q
theorem e_dnew : PE2 X (.Dict [] [] pos) tDNewK dDNew := ⟨pe_dnewK, fun ρ μ Q2 q I σ H hA hS Q g p hp => g _ _ _ _ _ (q p (hA.noM hp)) (hA.got hp ⟨[], rfl, .nil⟩) (Kp.got hp) rfl⟩
theorem t_chain {op op' : CmpOp} {r r' : R2} {r2 r2' : DR2} (ho : OpR X (compareOp op) r) (ho' : OpR X (compareOp op') r') (hr : RR X.K r r2) (hr' : RR X.K r' r2') (ha : PE2 X a ta ta2) (hb : PE2 X b tb tb2) (hc : PE2 X c tc tc2)
    (hm : lastMarks [op, op'] [b, c] = false := by with_unfolding_all rfl) : PT2 X (.Compare a [op, op'] [b, c] pos) (tTest (tChain r r' ta tb tc)) (dVal (dChain r2 r2' ta2 tb2 tc2)) :=
  ⟨pt_chain ho ho' ha.pe hb.pe hc.pe hm, fun ρ μ T F q I σ H hA hS Q g1 g2 => re_chain hr hr' ha.re hb.re hc.re ρ μ _ q I σ H hA hS _ fun d μ' v I' H' q' a' k' r' => re_val a' r' q' (g1.past k') (g2.past k')⟩
/-- what holds behind a statement, told once for all its ways -/
theorem w_seqK {ts2 tz2 : TS2} {n b c : Env2 → Mu → Prop} {r : DK} (M : Env2 → Mu → Prop) (hM : ∀ ρ μ, M ρ μ → tz2 ⟨n, r, b, c⟩ ρ μ) (h : ∀ T : Env2 → Mu → Prop, (∀ ρ μ, M ρ μ → T ρ μ) → ts2 ⟨Cl T, r, b, c⟩ ρ μ) : dSeqC ts2 tz2 ⟨n, r, b, c⟩ ρ μ := w_seqC (h _ hM)
/-- texts: <= -/
def dLeS : DR2 := fun x y μ Q => ∃ i j, x = .str i ∧ y = .str j ∧ Q (.bl (!decide (j.cps.toList < i.cps.toList))) μ
theorem w_leS {i j : Str} (q : Q (.bl (!decide (j.cps.toList < i.cps.toList))) μ) : dLeS (.str i) (.str j) μ Q := ⟨i, j, rfl, rfl, q⟩
theorem rr_leS : RR K (fun x y H Q => ∃ i j, x = .str i ∧ y = .str j ∧ Q (.bl (!decide (j.cps.toList < i.cps.toList))) H) dLeS := fun x y μ Q2 q I H vx vy hA rx ry Q k => by
  obtain ⟨i, j, rfl, rfl, q⟩ := q
  exact ⟨i, j, rx, ry, k _ _ _ _ _ q hA Kp.refl rfl⟩
end
end
end Y

set_option Elab.async false
set_option linter.all false
set_option maxRecDepth 100000
set_option maxHeartbeats 4000000
namespace Y
open PySem PySem.Spec PyProof.Rows L2
/-! where a token is out: replace of written texts -/
structure PEL2 (X : Cx) (e : Expr) (te : TE) (t : TE2) : Prop where
  pe : PET X e te
  re : RE X.K te t
section
variable {X : Cx} {K : PySem.W.Frag} {a b c e o i : Expr} {ta tb tc te to ti : TE} {ta2 tb2 tc2 te2 to2 ti2 : TE2} {pos apos cpos p tpos : Pos} {x y z : Str} {j k : Nat} {c0 c1 : Pos}
variable {ρ : Env2} {μ : Mu} {Q : DK}
theorem late (h : PE2 X e te te2) : PEL2 X e te te2 := ⟨CwR.PET.of h.pe, h.re⟩
theorem l_fz (h : PEL2 X e te te2) : PEL2 X e te (dFz te2) := ⟨h.pe, fun ρ μ Q2 q I σ H hA hS Q g => h.re ρ μ _ q I σ H hA hS _ fun d μ1 v I1 H1 q1 a1 k1 r1 => by
  obtain ⟨p, ds, rfl, hp, q1⟩ := q1
  obtain ⟨hI, ho, h1, vs, rfl, h2⟩ := a1.own p _ hp
  exact g _ _ _ _ _ q1 (a1.frz hp h1) (k1.trans (Kp.frz hp hI)) ⟨p, vs, r1, upd_same, h2.mono (Exx.new hI)⟩⟩
def dReplC (to : TE2) (y z : Str) : TE2 := fun ρ μ Q => to ρ μ fun d μ1 => ∃ x, d = .str x ∧ x.length + (x.length + 1) * z.length ≤ 16777216 ∧ Q (.str (Txt.replace x y z)) μ1
def dReplK (y z : Str) (Q : DK) : DK := fun d μ1 => ∃ x, d = .str x ∧ x.length + (x.length + 1) * z.length ≤ 16777216 ∧ Q (.str (Txt.replace x y z)) μ1
theorem w_repl (h : to2 ρ μ (dReplK y z Q)) : dReplC to2 y z ρ μ Q := h
theorem w_replK (h : x.length + (x.length + 1) * z.length ≤ 16777216) (q : Q (.str (Txt.replace x y z)) μ) : dReplK y z Q (.str x) μ := ⟨x, rfl, h, q⟩
theorem l_replace (ho : PE2 X o to to2) (hyz : (y == z) = false := by decide +kernel)
    (hst : starEach [.Constant (.str y) j c0, .Constant (.str z) k c1] X.env = [(false, eval (.Constant (.str y) j c0) X.env), (false, eval (.Constant (.str z) k c1) X.env)] := by rfl)
    (hbase : attributeBase o "replace" X.env (eval o X.env) = eval o X.env := by rfl) (hline : (apos.endLine == pos.line) = true := by rfl) :
    PEL2 X (.Call (.Attribute o "replace" apos) [.Constant (.str y) j c0, .Constant (.str z) k c1] [] pos) (CwR.tReplC to y z) (dReplC to2 y z) := ⟨CwR.pet_replC ho.pe hyz hst hbase hline, fun ρ μ Q2 q I σ H hA hS Q g => ho.re ρ μ _ q I σ H hA hS _ fun d μ1 v I1 H1 q1 a1 k1 r1 => by
  obtain ⟨x, rfl, h, q⟩ := q1
  exact ⟨x, r1, h, g _ _ _ _ _ q a1 k1 rfl⟩⟩
theorem pet_m1 {id : String} {name : Str} {r : V → List V → Hp → VK → Prop} (slot : Slot "str" name id) (ty : typeOf (.builtin id) = pure (.type "method_descriptor")) (rule : MtR X id r) (ho : PET X o to) (he : PE X e te)
    (hs : starEach [e] X.env = [(false, eval e X.env)] := by rfl) (hbase : attributeBase o name X.env (eval o X.env) = eval o X.env := by rfl) (hline : (apos.endLine == pos.line) = true := by rfl) :
    PET X (.Call (.Attribute o name apos) [e] [] pos) (tM1 r to te) := by
  intro pins s σ H Q h0 I h
  refine PySem.Call_method1 hbase hs hline (thn (ho pins s σ H _ h0 I h) fun v s1 ⟨x, H1, I1, r1, q1⟩ => ?_)
  obtain ⟨⟨a, rfl⟩, q1⟩ := q1
  obtain ⟨t, rfl⟩ := _root_.id r1
  refine ⟨"str", _, PySem.F.plainAttrs_str, slot, ty, typeIs_str _ _ _, (fun _ e => nomatch e), Calls.callWith_builtin rfl (Calls.evalArgs_plain (Calls.spliced_cons ?_))⟩
  exact thn (he.run pins s1 σ H1 _ I1 q1) fun u s2 ⟨y, H2, I2, r2, q2⟩ => Calls.spliced_nil (rule pins s2 σ H2 _ [y] _ [u] Q I2 r1 (.cons r2 .nil) q2)
theorem pe_m1L {id : String} {name : Str} {r : V → List V → Hp → VK → Prop} (slot : Slot "str" name id) (ty : typeOf (.builtin id) = pure (.type "method_descriptor")) (rule : MtR X id r) (he : PET X e te)
    (hs : starEach [e] X.env = [(false, eval e X.env)] := by rfl) (hbase : attributeBase (.Constant (.str z) j c0) name X.env (eval (.Constant (.str z) j c0) X.env) = eval (.Constant (.str z) j c0) X.env := by rfl) (hline : (apos.endLine == pos.line) = true := by rfl) :
    PE X (.Call (.Attribute (.Constant (.str z) j c0) name apos) [e] [] pos) (tM1 r (tC (.str z)) te) := by
  refine ⟨fun pins s σ H Q I h => ?_⟩
  refine PySem.Call_method1 hbase hs hline (Calls.Constant_str ?_)
  obtain ⟨_, h⟩ := h
  refine ⟨"str", _, PySem.F.plainAttrs_str, slot, ty, typeIs_str _ _ _, (fun _ e => nomatch e), Calls.callWith_builtin rfl (Calls.evalArgs_plain (Calls.spliced_cons ?_))⟩
  exact thn (he pins _ σ H _ (by show 1 ≤ s.toks + 1; omega) (I.tok _) h) fun u s2 ⟨y, H2, I2, r2, q2⟩ => Calls.spliced_nil (rule pins s2 σ H2 (.str z) [y] _ [u] Q I2 ⟨_, rfl⟩ (.cons r2 .nil) q2)
theorem rr_split : ∀ (x y : D) (μ : Mu) (Q2 : DK), dSplit x y μ Q2 → ∀ (I H : Hp) (v u : V), At K μ I H → Rp K I x v → Rp K I y u → ∀ Q : VK, Go K I μ H Q2 Q → rvSplit v [u] H Q := fun x y μ Q2 q I H v u hA rx ry Q k => by
    obtain ⟨a, b, rfl, rfl, h1, h2, q⟩ := q
    refine ⟨a, b, rx, by rw [show u = _ from ry], h1, h2, fun p hp => ?_⟩
    exact k _ _ _ _ _ (q p (hA.noM hp)) (hA.got hp ⟨_, rfl, RpA.strs _⟩) (Kp.got hp) rfl
theorem rr_join : ∀ (x y : D) (μ : Mu) (Q2 : DK), dJoin x y μ Q2 → ∀ (I H : Hp) (v u : V), At K μ I H → Rp K I x v → Rp K I y u → ∀ Q : VK, Go K I μ H Q2 Q → rvJoin K v [u] H Q := fun x y μ Q2 q I H v u hA rx ry Q k => by
    obtain ⟨a, ds, ys, rfl, h1, h2, z, q⟩ := q
    obtain ⟨p, vs, rfl, h3, h4⟩ := asS_at hA ry h1
    rw [strsOf_ok h2] at h4
    rw [h4.strs_inv] at h3
    exact ⟨a, p, ys, rx, rfl, h3, z, k _ _ _ _ _ q hA Kp.refl rfl⟩
theorem l_split (ho : PEL2 X o to to2) (he : PE2 X e te te2) (hs : starEach [e] X.env = [(false, eval e X.env)] := by rfl) (hbase : attributeBase o "split" X.env (eval o X.env) = eval o X.env := by rfl) (hline : (apos.endLine == pos.line) = true := by rfl) :
    PEL2 X (.Call (.Attribute o "split" apos) [e] [] pos) (tM1 rvSplit to te) (dM1 dSplit to2 te2) := ⟨pet_m1 PySem.F.slot_str_split PySem.F.type_str_split mt_split ho.pe he.pe hs hbase hline, re_m1 rr_split ho.re he.re⟩
theorem e_joinL (he : PEL2 X e te te2) (hs : starEach [e] X.env = [(false, eval e X.env)] := by rfl) (hbase : attributeBase (.Constant (.str z) j c0) "join" X.env (eval (.Constant (.str z) j c0) X.env) = eval (.Constant (.str z) j c0) X.env := by rfl) (hline : (apos.endLine == pos.line) = true := by rfl) :
    PE2 X (.Call (.Attribute (.Constant (.str z) j c0) "join" apos) [e] [] pos) (tM1 (rvJoin X.K) (tC (.str z)) te) (dM1 dJoin (dC (.str z)) te2) := ⟨pe_m1L PySem.F.slot_str_join PySem.F.type_str_join mt_join he.pe hs hbase hline, re_m1 rr_join (e_str (X := X) (x := z) (j := j) (pos := c0)).re he.re⟩
end
end Y

set_option Elab.async false
set_option linter.all false
set_option maxRecDepth 100000
set_option maxHeartbeats 4000000
namespace Y
open PySem PySem.Spec PyProof.Rows L2
/-! own classes: fields, methods, new instances; a def that calls itself -/
def setF (f : Str) (v : D) : List (Str × D) → List (Str × D)
  | [] => [(f, v)]
  | (g, x) :: r => if g = f then (g, v) :: r else (g, x) :: setF f v r
/-- a class of the program, as it stands -/
structure Kl (K : PySem.W.Frag) (mg : Str → Option Value) (x : Str) (C : Addr) : Prop where
  cl : Cls K C
  mg : mg x = some (.ref C)
  makes : PySem.W.makesIn K C = true
  kp : PySem.W.keepIn K (.ref C) = true
/-- a method as it stands behind the top -/
structure Tm (K : PySem.W.Frag) (C : Addr) (m q : Str) (st : Stmt) (ps : List Str) : Prop where
  of : ∃ f fd, Fun K m q st f fd ∧ Meth K C m f ∧ Binds K fd ps []
/-- a method that keeps a promise, and raises nothing -/
structure Dm (P : Program) (w : World) (K : PySem.W.Frag) (mg : Str → Option Value) (base : Heap) (C : Addr) (m : Str) (k : Nat) (ps : List Str) (sp : Sp2) : Prop where
  of : ∃ f fd, FnOk P w K mg base CX0 k f fd ps (toSp K sp) ∧ Meth K C m f ∧ Binds K fd ps []
section
variable {K : PySem.W.Frag} {I I' : Hp}
theorem RpF.put (f : Str) {d : D} {v : V} (r : Rp K I d v) : ∀ {fs : List (Str × D)} {hfs : List (Str × V)}, RpF K I fs hfs → RpF K I (setF f d fs) (putF f v hfs)
  | _, _, .nil => .cons ⟨rfl, r⟩ .nil
  | (g, x) :: fs, (g', y) :: hfs, .cons h t => by
    obtain ⟨h1, h2⟩ := h
    have h1 : g = g' := h1
    subst h1
    unfold setF putF
    by_cases e : g = f
    · rw [if_pos e, if_pos e]; exact .cons ⟨rfl, r⟩ t
    · rw [if_neg e, if_neg e]; exact .cons ⟨rfl, h2⟩ (RpF.put f r t)
theorem RpF.look (f : Str) : ∀ {fs : List (Str × D)} {hfs : List (Str × V)} {d : D}, RpF K I fs hfs → fs.lookup f = some d → ∃ v, hfs.lookup f = some v ∧ Rp K I d v
  | _, _, _, .nil, e => by cases e
  | (g, x) :: fs, (g', y) :: hfs, d, .cons h t, e => by
    obtain ⟨h1, h2⟩ := h
    have h1 : g = g' := h1
    subst h1
    rw [List.lookup_cons] at e ⊢
    cases q : f == g with
    | true => rw [q] at e; cases e; exact ⟨y, rfl, h2⟩
    | false => rw [q] at e; exact RpF.look f t e
theorem RpF.no (f : Str) : ∀ {fs : List (Str × D)} {hfs : List (Str × V)}, RpF K I fs hfs → fs.lookup f = none → hfs.lookup f = none
  | _, _, .nil, e => rfl
  | (g, x) :: fs, (g', y) :: hfs, .cons h t, e => by
    obtain ⟨h1, h2⟩ := h
    have h1 : g = g' := h1
    subst h1
    rw [List.lookup_cons] at e ⊢
    cases q : f == g with
    | true => rw [q] at e; cases e
    | false => rw [q] at e; exact RpF.no f t e
theorem RpF.len : ∀ {fs : List (Str × D)} {hfs : List (Str × V)}, RpF K I fs hfs → hfs.length = fs.length
  | _, _, .nil => rfl
  | _ :: _, _ :: _, .cons _ t => by rw [List.length_cons, List.length_cons, RpF.len t]
theorem RpF.zip : ∀ {ns : List Str} {ds : List D} {vs : List V}, ns.length = ds.length → RpA K I ds vs → RpF K I (ns.zip ds) (ns.zip vs)
  | [], _, _, _, _ => .nil
  | n :: ns, [], _, h, _ => by cases h
  | n :: ns, d :: ds, _, h, r => by
    obtain ⟨v, vs, rfl, r1, r2⟩ := r
    exact .cons ⟨rfl, r1⟩ (RpF.zip (Nat.succ.inj h) r2)
theorem RpF.unzip : ∀ {fs : List (Str × D)} {hfs : List (Str × V)}, RpF K I fs hfs → hfs = (fs.map (·.1)).zip (hfs.map (·.2)) ∧ RpA K I (fs.map (·.2)) (hfs.map (·.2))
  | _, _, .nil => ⟨rfl, rfl⟩
  | (g, x) :: fs, (g', y) :: hfs, .cons h t => by
    obtain ⟨h1, h2⟩ := h
    have h1 : g = g' := h1
    subst h1
    obtain ⟨e1, e2⟩ := RpF.unzip t
    exact ⟨by rw [List.map_cons, List.map_cons, List.zip_cons_cons, ← e1], _, _, rfl, h2, e2⟩
end
/-- the fields of an instance of C: owned, or one that stays -/
def fldsM (C : Addr) : Option MO → Option (List (Str × D))
  | some (.ins C' fs) => if C' = C then some fs else none
  | _ => none
def fldsOf (C : Addr) (μ : Mu) : D → Option (List (Str × D))
  | .adr p => fldsM C (μ p)
  | .obj C' ns ds => if C' = C ∧ ns.length = ds.length then some (ns.zip ds) else none
  | _ => none
theorem fldsM_inv {C : Addr} {m : Option MO} {fs : List (Str × D)} (h : fldsM C m = some fs) : m = some (.ins C fs) := by
  cases m with
  | none => cases h
  | some m =>
    cases m with
    | ins C' fs' =>
      have h' : (if C' = C then some fs' else none) = some fs := h
      by_cases e : C' = C
      · rw [if_pos e] at h'; cases h'; subst e; rfl
      · rw [if_neg e] at h'; cases h'
    | lst _ => cases h
    | dk _ => cases h
theorem fldsOf_adr {C p : Addr} {μ : Mu} {fs : List (Str × D)} (h : μ p = some (.ins C fs)) : fldsOf C μ (.adr p) = some fs := by
  show fldsM C (μ p) = some fs
  rw [h]; exact if_pos rfl
theorem fldsOf_obj {C : Addr} {μ : Mu} {ns : List Str} {ds : List D} (h : ns.length = ds.length) : fldsOf C μ (.obj C ns ds) = some (ns.zip ds) := if_pos ⟨rfl, h⟩
theorem fldsOf_at {K : PySem.W.Frag} {C : Addr} {μ : Mu} {I H : Hp} {d : D} {v : V} {fs : List (Str × D)} (a : At K μ I H) (r : Rp K I d v) (h : fldsOf C μ d = some fs) : ∃ p dx hfs, v = .ref p ∧ H p = some (.ins C dx hfs) ∧ RpF K I fs hfs := by
  cases d with
  | adr p =>
    obtain ⟨_, o, ho, dx, hfs, rfl, hr⟩ := a.own p _ (fldsM_inv h)
    exact ⟨p, dx, hfs, r, ho, hr⟩
  | obj C' ns ds =>
    have h' : (if C' = C ∧ ns.length = ds.length then some (ns.zip ds) else none) = some fs := h
    by_cases e : C' = C ∧ ns.length = ds.length
    · rw [if_pos e] at h'
      cases h'
      obtain ⟨e1, e2⟩ := e
      subst e1
      obtain ⟨p, dx, vs, rfl, hp, _, hr⟩ := r
      exact ⟨p, dx, _, rfl, a.sub p _ hp, RpF.zip e2 hr⟩
    · rw [if_neg e] at h'; cases h'
  | non => cases h
  | bl _ => cases h
  | int _ => cases h
  | str _ => cases h
  | ty _ => cases h
  | tup _ => cases h
  | lst _ => cases h
  | scr _ => cases h
section
variable {X : Cx} {K : PySem.W.Frag} {a b c e o : Expr} {es rest : List Expr} {ta tb tc te to : TE} {ta2 tb2 tc2 te2 to2 : TE2} {pos apos cpos p tpos : Pos} {tl : TA} {tl2 : TA2} {x f m : Str} {C : Addr}
variable {ρ : Env2} {μ : Mu} {Q : DK} {k j : Nat} {ps : List Str} {sp : Sp2}
/-! ### fields -/
def dFld (C : Addr) (f : Str) (ta : TE2) : TE2 := fun ρ μ Q => ta ρ μ fun d μ1 => ∃ fs v, fldsOf C μ1 d = some fs ∧ fs.lookup f = some v ∧ Q v μ1
def dFldK (C : Addr) (f : Str) (Q : DK) : DK := fun d μ1 => ∃ fs v, fldsOf C μ1 d = some fs ∧ fs.lookup f = some v ∧ Q v μ1
theorem w_fld (h : ta2 ρ μ (dFldK C f Q)) : dFld C f ta2 ρ μ Q := h
theorem w_fldK {d v : D} {fs : List (Str × D)} (h : fldsOf C μ d = some fs) (h2 : fs.lookup f = some v) (q : Q v μ) : dFldK C f Q d μ := ⟨fs, v, h, h2, q⟩
theorem e_fld (c : Cls X.K C) (n : NoAttr X.K C f) (he : PE2 X e ta ta2) (hb : attributeBase e f X.env (eval e X.env) = eval e X.env := by rfl) : PE2 X (.Attribute e f pos) (tFld X.K ta f) (dFld C f ta2) :=
  ⟨pe_fld he.pe hb, fun ρ μ Q2 q I σ H hA hS Q g => he.re ρ μ _ q I σ H hA hS _ fun d μ1 v I1 H1 q1 a1 k1 r1 => by
    obtain ⟨fs, z, h1, h2, q1⟩ := q1
    obtain ⟨p, dx, hfs, rfl, hp, hr⟩ := fldsOf_at a1 r1 h1
    obtain ⟨y, hy, ry⟩ := hr.look f h2
    exact ⟨p, C, dx, hfs, y, rfl, hp, c, n, hy, g _ _ _ _ _ q1 a1 k1 ry⟩⟩
/-- e.f = value, of an owned instance -/
def dPutF (C : Addr) (f : Str) (ta tv : TE2) : TS2 := fun D ρ μ => tv ρ μ fun v μ1 => ta ρ μ1 fun d μ2 => ∃ p fs, d = .adr p ∧ μ2 p = some (.ins C fs) ∧ fs.length < 1000 ∧ D.nx ρ (mup μ2 p (.ins C (setF f v fs)))
def dPutFK (C : Addr) (f : Str) (v : D) (N : Mu → Prop) : DK := fun d μ2 => ∃ p fs, d = .adr p ∧ μ2 p = some (.ins C fs) ∧ fs.length < 1000 ∧ N (mup μ2 p (.ins C (setF f v fs)))
theorem w_putF {n b c : Env2 → Mu → Prop} {r : DK} (h : tb2 ρ μ fun v μ1 => ta2 ρ μ1 (dPutFK C f v (n ρ))) : dPutF C f ta2 tb2 ⟨n, r, b, c⟩ ρ μ := h
theorem w_putFK {p : Addr} {v : D} {fs fs' : List (Str × D)} {N : Mu → Prop} (h : μ p = some (.ins C fs)) (h2 : setF f v fs = fs') (l : fs.length < 1000) (q : N (mup μ p (.ins C fs'))) : dPutFK C f v N (.adr p) μ := ⟨p, fs, rfl, h, l, by rw [h2]; exact q⟩
theorem setF_nil {v : D} : setF f v [] = [(f, v)] := rfl
theorem setF_hit {v x : D} {r : List (Str × D)} : setF f v ((f, x) :: r) = (f, v) :: r := if_pos rfl
theorem setF_miss {g : Str} {v x : D} {r r' : List (Str × D)} (h : (g == f) = false) (h2 : setF f v r = r') : setF f v ((g, x) :: r) = (g, x) :: r' := by
  rw [← h2]; exact if_neg fun z => by rw [z, beq_self_eq_true] at h; cases h
theorem lk_hit {v : D} {r : List (Str × D)} : List.lookup f ((f, v) :: r) = some v := by simp [List.lookup]
theorem lk_miss {g : Str} {v x : D} {r : List (Str × D)} (h : (f == g) = false) (h2 : List.lookup f r = some v) : List.lookup f ((g, x) :: r) = some v := by
  rw [List.lookup_cons, h]; exact h2
theorem lk_nil : List.lookup f ([] : List (Str × D)) = none := rfl
theorem lk_no {g : Str} {x : D} {r : List (Str × D)} (h : (f == g) = false) (h2 : List.lookup f r = none) : List.lookup f ((g, x) :: r) = none := by
  rw [List.lookup_cons, h]; exact h2
theorem s_putF {value : Expr} {tv : TE} {tv2 : TE2} {pos' : Pos} (c : Cls X.K C) (n : NoAttr X.K C f) (ho : PE2 X o ta ta2) (hv : PE2 X value tv tv2) (hs : swapsWith value (some (.Attribute o f pos')) pos.line X.env = pure false := by rfl) :
    PS2 X (.Assign [.Attribute o f pos'] value pos) (sFld X.K ta tv f) (dPutF C f ta2 tv2) :=
  ⟨ps_fld ho.pe hv.pe hs, fun D2 ρ μ q I σ H hA hS D g => hv.re ρ μ _ q I σ H hA hS _ fun v μ1 u I1 H1 q1 a1 k1 r1 => ho.re ρ μ1 _ q1 I1 σ H1 a1 (hS.mono k1.ex) _ fun d μ2 z I2 H2 q2 a2 k2 r2 => by
    obtain ⟨p, fs, rfl, hp, l, q2⟩ := q2
    cases (show z = _ from r2)
    obtain ⟨_, ob, ho', dx, hfs, rfl, hr⟩ := a2.own p _ hp
    exact ⟨p, C, dx, hfs, rfl, ho', c, n, by rw [hr.len]; exact l, g.nx _ _ _ _ _ q2 (a2.put hp ⟨dx, _, rfl, hr.put f (r1.mono k2.ex)⟩) (hS.mono (k1.trans k2).ex) ((k1.trans k2).trans (Kp.put hp))⟩⟩
/-! ### methods -/
def dMeth (C : Addr) (m : Str) (sp : Sp2) (to : TE2) (t : TA2) : TE2 := fun ρ μ Q => to ρ μ fun d μ1 => (∃ fs, fldsOf C μ1 d = some fs ∧ fs.lookup m = none) ∧ t ρ μ1 fun ds μ2 => sp (d :: ds) μ2 Q NoX
def dMethK (C : Addr) (m : Str) (N : Prop) (d : D) (μ1 : Mu) : Prop := (∃ fs, fldsOf C μ1 d = some fs ∧ fs.lookup m = none) ∧ N
theorem w_meth (h : to2 ρ μ fun d μ1 => dMethK C m (tl2 ρ μ1 fun ds μ2 => sp (d :: ds) μ2 Q NoX) d μ1) : dMeth C m sp to2 tl2 ρ μ Q := h
theorem w_methK {N : Prop} {d : D} {fs : List (Str × D)} (h : fldsOf C μ d = some fs) (h2 : fs.lookup m = none) (q : N) : dMethK C m N d μ := ⟨⟨fs, h, h2⟩, q⟩
theorem re_meth {E : XK} (ho : RE K to to2) (ht : RA K tl tl2) : RE K (tMeth C m (toSp K sp) [] E to tl) (dMeth C m sp to2 tl2) := fun ρ μ Q2 q I σ H hA hS Q g => ho ρ μ _ q I σ H hA hS _ fun d μ1 v I1 H1 q1 a1 k1 r1 => by
  obtain ⟨⟨fs, h1, h2⟩, q1⟩ := q1
  obtain ⟨p, dx, hfs, rfl, hp, hr⟩ := fldsOf_at a1 r1 h1
  refine ⟨p, dx, hfs, rfl, hp, hr.no m h2, ht ρ μ1 _ q1 I1 σ H1 a1 (hS.mono k1.ex) _ fun ds μ2 vs I2 H2 q2 a2 k2 r2 => ?_⟩
  rw [List.append_nil]
  exact ⟨d :: ds, μ2, I2, Q2, NoX, a2, ⟨_, _, rfl, r1.mono k2.ex, r2⟩, q2, g.past (k1.trans k2), goX_no⟩
theorem e_meth {pl : Sem Bool} (F : Dm X.prog X.w X.K X.mg X.base C m j ps sp) (hr : Room k X.A) (c : Cls X.K C) (ho : PE2 X o to to2) (ha : PA2 X (e :: es) tl tl2) (hjk : j ≤ k := by first | decide | omega)
    (hst : starEach (e :: es) X.env = (false, eval e X.env) :: starEach es X.env := by rfl) (hpl : (backTo pos (starEach es X.env)).any (·.1) = false := by rfl)
    (ht : eval (.Call (.Attribute o m apos) (e :: es) [] pos) X.env = (do
      let ov ← eval o X.env
      standAt apos.atName
      let (f, first) ← holding [ov] (getMethod ov m pl)
      callWith pos f first (backTo pos (starEach (e :: es) X.env)) (backToKw pos (keywordEach [] X.env))) := by rfl) :
    PE2 X (.Call (.Attribute o m apos) (e :: es) [] pos) (tMeth C m (toSp X.K sp) [] E0 to tl) (dMeth C m sp to2 tl2) := by
  obtain ⟨f, fd, F, hm, hb⟩ := F.of
  exact ⟨pe_meth ho.pe c hm F (hr.mono hjk) hb .nil pass0 ha.pa hst hpl ht, re_meth ho.re ha.re⟩
theorem e_meth0 {pl : Sem Bool} (F : Dm X.prog X.w X.K X.mg X.base C m j ps sp) (hr : Room k X.A) (c : Cls X.K C) (ho : PE2 X o to to2) (hjk : j ≤ k := by first | decide | omega)
    (ht : eval (.Call (.Attribute o m apos) [] [] pos) X.env = (do
      let ov ← eval o X.env
      standAt apos.atName
      let (f, first) ← holding [ov] (getMethod ov m pl)
      callWith pos f first (backTo pos (starEach [] X.env)) (backToKw pos (keywordEach [] X.env))) := by rfl) :
    PE2 X (.Call (.Attribute o m apos) [] [] pos) (tMeth C m (toSp X.K sp) [] E0 to tNil) (dMeth C m sp to2 dNil) := by
  obtain ⟨f, fd, F, hm, hb⟩ := F.of
  exact ⟨pe_meth0 ho.pe c hm F (hr.mono hjk) hb .nil pass0 ht, re_meth ho.re (a_nil (X := X)).re⟩
/-! ### new instances -/
def dMake (C : Addr) (sp : Sp2) (t : TA2) : TE2 := fun ρ μ Q => t ρ μ fun ds μ1 => ∀ p, μ1 p = none → sp (.adr p :: ds) (mup μ1 p (.ins C [])) (fun d μ2 => d = .non ∧ Q (.adr p) μ2) NoX
def dMakeK (C : Addr) (sp : Sp2) (Q : DK) : List D → Mu → Prop := fun ds μ1 => ∀ p, μ1 p = none → sp (.adr p :: ds) (mup μ1 p (.ins C [])) (fun d μ2 => d = .non ∧ Q (.adr p) μ2) NoX
theorem w_make (h : tl2 ρ μ (dMakeK C sp Q)) : dMake C sp tl2 ρ μ Q := h
theorem re_make {E : XK} (ht : RA K tl tl2) : RE K (tMake C (toSp K sp) [] E tl) (dMake C sp tl2) := fun ρ μ Q2 q I σ H hA hS Q g => ht ρ μ _ q I σ H hA hS _ fun ds μ1 vs I1 H1 q1 a1 k1 r1 => by
  intro x dx hx hdx hne
  have hI : I1 x = none := a1.noI hx
  have hId : I1 dx = none := a1.noI hdx
  have hM : μ1 x = none := a1.noM hx
  have hMd : μ1 dx = none := a1.noM hdx
  have hxd : x ≠ dx := fun z => hne z.symm
  have a2 : At K μ1 I1 (upd H1 dx (.own x)) := ⟨fun b u e => by rw [upd_ne (ne_of_none e hId)]; exact a1.sub b u e, fun b n e => by
    obtain ⟨h1, u, h2, h3⟩ := a1.own b n e
    exact ⟨h1, u, by rw [upd_ne (ne_of_none h2 hdx)]; exact h2, h3⟩⟩
  have k2 : Kp I1 μ1 H1 I1 μ1 (upd H1 dx (.own x)) := ⟨Exx.refl _, fun b u e h1 h2 => ⟨by rw [upd_ne (ne_of_none e hdx)]; exact e, h1, h2⟩⟩
  have hx2 : upd H1 dx (.own x) x = none := by rw [upd_ne hxd]; exact hx
  have a3 := a2.got (m := .ins C []) hx2 ⟨dx, [], rfl, .nil⟩
  have k3 : Kp I1 μ1 (upd H1 dx (.own x)) I1 (mup μ1 x (.ins C [])) (upd (upd H1 dx (.own x)) x (.ins C dx [])) := Kp.got hx2
  rw [List.append_nil]
  refine ⟨.adr x :: ds, _, I1, fun d μ2 => d = .non ∧ Q2 (.adr x) μ2, NoX, a3, ⟨_, _, rfl, rfl, r1⟩, q1 x hM, ?_, goX_no⟩
  rintro d μ' v I' H' ⟨rfl, q⟩ a k r
  exact ⟨r, g _ _ _ _ _ q a (k1.trans ((k2.trans k3).trans k)) rfl⟩
theorem mk_of (KC : Kl X.K X.mg x C) (F : Dm X.prog X.w X.K X.mg X.base C "__init__" j ps sp) : ∃ f fd, FnOk X.prog X.w X.K X.mg X.base CX0 j f fd ps (toSp X.K sp) ∧ Mk X.K C f ∧ Binds X.K fd ps [] := by
  obtain ⟨f, fd, F, hm, hb⟩ := F.of
  exact ⟨f, fd, F, ⟨KC.makes, hm.at_, hm.fn, KC.kp⟩, hb⟩
theorem e_make (KC : Kl X.K X.mg x C) (F : Dm X.prog X.w X.K X.mg X.base C "__init__" j ps sp) (hr : Room (k + 1) X.A) (hg : Gl X x) (ha : PA2 X (e :: es) tl tl2) (hjk : j ≤ k := by first | decide | omega) (hdb : (x == ("__debug__" : Str)) = false := by decide)
    (he : starEach (e :: es) X.env = (false, eval e X.env) :: starEach es X.env := by rfl) (hpl : (backTo pos (starEach es X.env)).any (·.1) = false := by rfl) : PE2 X (.Call (.Name x p) (e :: es) [] pos) (tMake C (toSp X.K sp) [] E0 tl) (dMake C sp tl2) := by
  obtain ⟨f, fd, F, hm, hb⟩ := mk_of KC F
  exact ⟨pe_make hm F (hr.mono (Nat.succ_le_succ hjk)) hg KC.mg hb .nil pass0 ha.pa hdb he hpl, re_make ha.re⟩
theorem e_make0 (KC : Kl X.K X.mg x C) (F : Dm X.prog X.w X.K X.mg X.base C "__init__" j ps sp) (hr : Room (k + 1) X.A) (hg : Gl X x) (hjk : j ≤ k := by first | decide | omega) (hdb : (x == ("__debug__" : Str)) = false := by decide) :
    PE2 X (.Call (.Name x p) [] [] pos) (tMake C (toSp X.K sp) [] E0 tNil) (dMake C sp dNil) := by
  obtain ⟨f, fd, F, hm, hb⟩ := mk_of KC F
  exact ⟨pe_make0 hm F (hr.mono (Nat.succ_le_succ hjk)) hg KC.mg hb .nil pass0 hdb, re_make (a_nil (X := X)).re⟩
/-- an owned instance stays from now on -/
def dFzO (C : Addr) (t : TE2) : TE2 := fun ρ μ Q => t ρ μ fun d μ1 => ∃ p fs, d = .adr p ∧ μ1 p = some (.ins C fs) ∧ Q (.obj C (fs.map (·.1)) (fs.map (·.2))) (mdel μ1 p)
def dFzOK (C : Addr) (Q : DK) : DK := fun d μ1 => ∃ p fs, d = .adr p ∧ μ1 p = some (.ins C fs) ∧ Q (.obj C (fs.map (·.1)) (fs.map (·.2))) (mdel μ1 p)
theorem w_fzO (h : te2 ρ μ (dFzOK C Q)) : dFzO C te2 ρ μ Q := h
theorem w_fzOK {p : Addr} {fs : List (Str × D)} (h : μ p = some (.ins C fs)) (q : Q (.obj C (fs.map (·.1)) (fs.map (·.2))) (mdel μ p)) : dFzOK C Q (.adr p) μ := ⟨p, fs, rfl, h, q⟩
theorem e_fzO (h : PE2 X e te te2) : PE2 X e te (dFzO C te2) :=
  ⟨h.pe, fun ρ μ Q2 q I σ H hA hS Q g => h.re ρ μ _ q I σ H hA hS _ fun d μ1 v I1 H1 q1 a1 k1 r1 => by
    obtain ⟨p, fs, rfl, hp, q1⟩ := q1
    obtain ⟨hI, ob, ho, dx, hfs, rfl, hr⟩ := a1.own p _ hp
    obtain ⟨e1, e2⟩ := hr.unzip
    refine g _ _ _ _ _ q1 (a1.frz hp ho) (k1.trans (Kp.frz hp hI)) ⟨p, dx, hfs.map (·.2), r1, ?_, ?_, e2.mono (Exx.new hI)⟩
    · rw [upd_same, ← e1]
    · rw [List.length_map, List.length_map]⟩
/-! ### a call whose level is a letter; a def that is not reached -/
theorem e_callR (F : Df X.prog X.w X.K X.mg X.base x j ps sp) (hr : Room k X.A) (hg : Gl X x) (hjk : j ≤ k) (ha : PA2 X (e :: es) tl tl2) (hdb : (x == ("__debug__" : Str)) = false := by decide) (he : starEach (e :: es) X.env = (false, eval e X.env) :: starEach es X.env := by rfl) (hpl : (backTo pos (starEach es X.env)).any (·.1) = false := by rfl) :
    PE2 X (.Call (.Name x p) (e :: es) [] pos) (tCall (toSp X.K sp) [] E0 tl) (dCall sp tl2) := e_call F hr hg ha hjk hdb he hpl
theorem Tx.never {P : Program} {w : World} {mg : Str → Option Value} {base : Heap} {st : Stmt} {N : List Str} (T : Tx K mg x st ps) (S : FnScope N ps (defScope st)) : Df P w K mg base x 1 ps (fun _ _ _ _ => False) :=
  T.ok S (fun _ _ _ _ h => h.elim) fun f cdv A outer s H E hr => ⟨fun _ _ _ => False, fun _ _ _ => False, ⟨⟨fun pins s σ H D I h => h.elim⟩, fun D2 ρ μ q => q.elim⟩, fun _ _ _ _ h => h.elim⟩
theorem Tm.ok {P : Program} {w : World} {mg : Str → Option Value} {base : Heap} {q : Str} {st : Stmt} {N : List Str} (T : Tm K C m q st ps) (S : FnScope N ps (defScope st)) (len : ∀ ds μ Q E, sp ds μ Q E → ds.length = ps.length)
    (hb : ∀ (f : Addr) (cdv : Value) (A : Around) (outer : List Env) (s : Shared) (H : Hp) (E : XK), Room k (A.deeper (envOfC q (defScope st) s.heap.objs.size f cdv)) →
      ∃ ts t, PSs2 (cxOf CX0 P w K mg base N q (defScope st) f cdv A outer s H E).nox (defBody st) ts t ∧ ∀ ds μ Q E2, sp ds μ Q E2 → t { nx := fun _ μ' => RtC Q .non μ', rt := RtC Q } (start2 N ds) μ) : Dm P w K mg base C m (k + 1) ps sp := by
  obtain ⟨f, fd, F, hm, hbd⟩ := T.of
  refine ⟨f, fd, F.ok S (fun vs H Q E h => ?_) (fun cdv A outer s H vs Q E hr h => ?_), hm, hbd⟩
  · obtain ⟨ds, μ, I, Q2, E2, _, r, hsp, _⟩ := h
    rw [r.length]; exact len _ _ _ _ hsp
  · obtain ⟨ds, μ, I, Q2, E2, hA, r, hsp, g, gx⟩ := h
    obtain ⟨ts, t, ht, hq⟩ := hb f cdv A outer s H E hr
    refine ⟨ts, ht.ps, ht.re _ _ μ (hq ds μ Q2 E2 hsp) I _ H hA (slots_start r) _ ⟨?_, ?_, fun _ _ _ _ _ h => h.elim, fun _ _ _ _ _ h => h.elim⟩⟩
    · rintro ρ' μ' σ' I' H' ⟨d', μ2, sh, q⟩ a' s' k'
      obtain ⟨I2, a2, k2, r2⟩ := sh K I' H' .non a' rfl
      exact g d' μ2 _ I2 H' q a2 (k'.trans k2) r2
    · rintro d μ' v I' H' ⟨d', μ2, sh, q⟩ a' k' r'
      obtain ⟨I2, a2, k2, r2⟩ := sh K I' H' v a' r'
      exact g d' μ2 _ I2 H' q a2 (k'.trans k2) r2
theorem Tm.never {P : Program} {w : World} {mg : Str → Option Value} {base : Heap} {q : Str} {st : Stmt} {N : List Str} (T : Tm K C m q st ps) (S : FnScope N ps (defScope st)) : Dm P w K mg base C m 1 ps (fun _ _ _ _ => False) :=
  T.ok S (fun _ _ _ _ h => h.elim) fun f cdv A outer s H E hr => ⟨fun _ _ _ => False, fun _ _ _ => False, ⟨⟨fun pins s σ H D I h => h.elim⟩, fun D2 ρ μ q => q.elim⟩, fun _ _ _ _ h => h.elim⟩
end
end Y

set_option Elab.async false
set_option linter.all false
set_option maxRecDepth 100000
set_option maxHeartbeats 4000000
namespace Y
open PySem PySem.Spec PyProof.Rows L2
/-! isinstance(x, (T1, T2, ..)), types that are built in -/
def kitL (t : String) : List String → Option Bool
  | [] => some false
  | c :: cs => match kitB t c with
    | some true => some true
    | some false => kitL t cs
    | none => none
theorem kitL_ok {K : PySem.W.Frag} {t : String} : ∀ {cs : List String} {b : Bool}, kitL t cs = some b → PySem.W.kitAny K (.type t) (cs.map Value.type) = some b
  | [], b, h => by cases h; exact kitAny_nil
  | c :: cs, b, h => by
    unfold kitL at h
    cases q : kitB t c with
    | none => simp only [q] at h; cases h
    | some b1 =>
      cases b1 with
      | true => simp only [q] at h; cases h; exact kitAny_cons (kit_ty q) (fun z => by cases z) (fun _ => rfl)
      | false => simp only [q] at h; exact kitAny_cons (kit_ty q) (fun _ => kitL_ok h) (fun z => by cases z)
theorem kitL_nil {t : String} : kitL t [] = some false := rfl
theorem kitL_hit {t c : String} {cs : List String} (h : kitB t c = some true) : kitL t (c :: cs) = some true := by
  unfold kitL; simp only [h]
theorem kitL_miss {t c : String} {cs : List String} {b : Bool} (h : kitB t c = some false) (h2 : kitL t cs = some b) : kitL t (c :: cs) = some b := by
  unfold kitL; simp only [h]; exact h2
theorem eq_lsts {μ : Mu} {p p2 : Addr} {xs : List D} (s : D.shp 64 (D.lst xs) = true) (h : μ p = some (.lst xs)) (h2 : μ p2 = some (.lst xs)) : EqR μ (.adr p) (.adr p2) true := by
  refine .inr ⟨?_, ?_, ?_⟩
  · rw [rsv_lst h]; exact s
  · rw [rsv_lst h2]; exact s
  · rw [rsv_lst h, rsv_lst h2]; exact eqv_self rfl s
theorem eq_adr_lst {μ : Mu} {p : Addr} {xs : List D} (s : D.shp 64 (D.lst xs) = true) (h : μ p = some (.lst xs)) : EqR μ (.adr p) (.lst xs) true := by
  refine .inr ⟨?_, s, ?_⟩
  · rw [rsv_lst h]; exact s
  · rw [rsv_lst h]; exact eqv_self rfl s
theorem shp_str {n : Nat} {x : Str} : D.shp n (.str x) = PyData.strOk x := by cases n <;> rfl
theorem shp_int {n : Nat} {x : Int} : D.shp n (.int x) = true := by cases n <;> rfl
theorem shp_tup {n : Nat} {ds : List D} : D.shp (n + 1) (.tup ds) = D.shpA n ds := rfl
theorem shp_lst {n : Nat} {ds : List D} : D.shp (n + 1) (.lst ds) = D.shpA n ds := rfl
theorem shpA_cons {n : Nat} {d : D} {ds : List D} : D.shpA n (d :: ds) = (D.shp n d && D.shpA n ds) := by cases n <;> rfl
theorem shpA_nil {n : Nat} : D.shpA n [] = true := by cases n <;> rfl
mutual
theorem shp_mono : ∀ {n : Nat} {d : D}, D.shp n d = true → D.shp (n + 1) d = true
  | n, .non, _ => by cases n <;> rfl
  | n, .bl _, _ => by cases n <;> rfl
  | n, .int _, _ => by cases n <;> rfl
  | n, .str x, h => by rw [shp_str] at h ⊢; exact h
  | 0, .tup ds, h => by cases h
  | 0, .lst ds, h => by cases h
  | n + 1, .tup ds, h => by rw [shp_tup] at h ⊢; exact shpA_mono h
  | n + 1, .lst ds, h => by rw [shp_lst] at h ⊢; exact shpA_mono h
  | n, .ty _, h => by cases n <;> cases h
  | n, .adr _, h => by cases n <;> cases h
  | n, .obj _ _ _, h => by cases n <;> cases h
  | n, .scr _, h => by cases n <;> cases h
theorem shpA_mono : ∀ {n : Nat} {ds : List D}, D.shpA n ds = true → D.shpA (n + 1) ds = true
  | n, [], _ => shpA_nil
  | n, d :: ds, h => by
    rw [shpA_cons, Bool.and_eq_true] at h
    rw [shpA_cons, shp_mono h.1, shpA_mono h.2]; rfl
end
theorem shp_le {n m : Nat} {d : D} (h : D.shp n d = true) (l : n ≤ m) : D.shp m d = true := by
  obtain ⟨k, rfl⟩ := Nat.le.dest l
  induction k with
  | zero => exact h
  | succ k ih => exact shp_mono (ih (by omega))
theorem tys_paired : ∀ cs : List String, Paired ClsV (cs.map V.ty) (cs.map Value.type)
  | [] => .nil
  | c :: cs => .cons (.ty c) (tys_paired cs)
theorem tys_inv {K : PySem.W.Frag} {I : Hp} : ∀ {cs : List String} {vs : List V}, RpA K I (cs.map D.ty) vs → vs = cs.map V.ty
  | [], _, h => h
  | c :: cs, _, h => by
    obtain ⟨v, r, rfl, h1, h2⟩ := h
    rw [tys_inv h2]
    cases (show v = _ from h1)
    rfl
/-- something new of which nothing is said -/
theorem At.extra {K : PySem.W.Frag} {μ : Mu} {I H : Hp} {p : Addr} {o : HO} (a : At K μ I H) (hp : H p = none) : At K μ I (upd H p o) := ⟨fun b u e => by
  rw [upd_ne (ne_of_none e (a.noI hp))]; exact a.sub b u e, fun b n e => by
  obtain ⟨h1, u, h2, h3⟩ := a.own b n e
  exact ⟨h1, u, by rw [upd_ne (ne_of_none h2 hp)]; exact h2, h3⟩⟩
theorem Kp.extra {μ : Mu} {I H : Hp} {p : Addr} {o : HO} (hp : H p = none) : Kp I μ H I μ (upd H p o) := ⟨Exx.refl _, fun b u e h1 h2 => ⟨by rw [upd_ne (ne_of_none e hp)]; exact e, h1, h2⟩⟩
section
variable {X : Cx} {K : PySem.W.Frag} {a b c e o : Expr} {es rest : List Expr} {ta tb tc te to : TE} {ta2 tb2 tc2 te2 to2 : TE2} {pos apos cpos p tpos : Pos} {tl : TA} {tl2 : TA2}
variable {ρ : Env2} {μ : Mu} {Q : DK}
def dTys (cs : List String) : TA2 := fun _ μ Q => Q (cs.map D.ty) μ
def dIsiT (cs : List String) (ta : TE2) : TE2 := fun ρ μ Q => ta ρ μ fun d μ1 => ∃ t b, tyD μ1 d = some t ∧ kitL t cs = some b ∧ Q (.bl b) μ1
def dIsiTK (cs : List String) (Q : DK) : DK := fun d μ1 => ∃ t b, tyD μ1 d = some t ∧ kitL t cs = some b ∧ Q (.bl b) μ1
theorem w_isiT {cs : List String} (h : ta2 ρ μ (dIsiTK cs Q)) : dIsiT cs ta2 ρ μ Q := h
theorem w_isiTK {cs : List String} {d : D} {t : String} {b : Bool} (h : tyD μ d = some t) (h2 : kitL t cs = some b) (q : Q (.bl b) μ) : dIsiTK cs Q d μ := ⟨t, b, h, h2, q⟩
theorem e_isiT {cs : List String} {x1} (hg : Gl X "isinstance") (hm : X.mg "isinstance" = none) (ha : PE2 X a ta ta2) (hl : PA2 X es tl (dTys cs)) (hz : cs.length ≤ sizeLine := by decide) (hv : bootBuiltins "isinstance" = some (.builtin "isinstance") := by decide +kernel)
    (he : starEach [a, .Tuple es x1 tpos] X.env = (false, eval a X.env) :: starEach [.Tuple es x1 tpos] X.env := by rfl) (hpl : (backTo pos (starEach [.Tuple es x1 tpos] X.env)).any (·.1) = false := by rfl) (hs2 : starEach [.Tuple es x1 tpos] X.env = (false, eval (.Tuple es x1 tpos) X.env) :: starEach [] X.env := by rfl) :
    PE2 X (.Call (.Name "isinstance" p) [a, .Tuple es x1 tpos] [] pos) (tCB (rIsiT X.K) (tCons ta (tCons (tTup tl) tNil))) (dIsiT cs ta2) :=
  ⟨pe_callB call_isiT hg hm hv (pa_cons ha.pe (pa_cons (pe_tup hl.pa) pa_nil hs2) he) (he := he) (hpl := hpl), fun ρ μ Q2 q I σ H hA hS Q g => ha.re ρ μ _ q I σ H hA hS _ fun d μ1 v I1 H1 q1 a1 k1 r1 => by
    obtain ⟨t, b, h1, h2, q1⟩ := q1
    refine hl.re ρ μ1 (fun ds μ2 => ds = cs.map D.ty ∧ μ2 = μ1) ⟨rfl, rfl⟩ I1 σ H1 a1 (hS.mono k1.ex) _ ?_
    rintro ds μ2 vs I2 H2 ⟨rfl, rfl⟩ a2 k2 r2
    cases tys_inv r2
    refine ⟨by rw [List.length_map]; exact hz, fun tp htp => ?_⟩
    have a3 := a2.extra (o := .tup (cs.map V.ty)) htp
    exact ⟨v, tp, cs.map V.ty, .type t, cs.map Value.type, b, rfl, upd_same, tys_paired cs, tyD_ok a3 (r1.mono k2.ex) h1, kitL_ok h2, g _ _ _ _ _ q1 a3 ((k1.trans k2).trans (Kp.extra htp)) rfl⟩⟩
end
end Y

set_option Elab.async false
set_option linter.all false
set_option maxRecDepth 100000
set_option pp.maxSteps 1500
set_option maxHeartbeats 4000000
open PySem PySem.Spec PyProof.Rows L2 Y in
section
end
local macro_rules | `(tactic| walk_at "ne") => `(tactic| first
  | assumption
  | (refine Ne.symm ?_; assumption)
  | exact Y.ne_new (by assumption) (by assumption)
  | exact Y.ne_new' (by assumption) (by assumption)
  | exact Y.ne_of_mup (by assumption)
  | exact (Y.ne_of_mup (by assumption)).symm
  | exact Y.ne_new (by assumption) (by walk_at "mu")
  | exact Y.ne_new' (by assumption) (by walk_at "mu"))
local macro_rules | `(tactic| walk_at "mu") => `(tactic| first
  | assumption
  | exact Y.mup_same
  | exact Y.look_ne (by walk_at "ne") (by walk_at "mu"))
local macro_rules | `(tactic| walk_at "as") => `(tactic| first
  | (with_reducible exact Y.asL_lst)
  | (with_reducible exact Y.asS_lst)
  | (with_reducible exact Y.asS_tup)
  | ((with_reducible refine' Y.asL_adr ?h); (case h => walk_at "mu"))
  | ((with_reducible refine' Y.asS_adr ?h); (case h => walk_at "mu"))
  | (with_reducible assumption))
local macro_rules | `(tactic| walk_at "ty") => `(tactic| first
  | (with_reducible assumption)
  | ((with_reducible refine' Y.tyD_lst ?h); (case h => walk_at "mu"))
  | ((with_reducible refine' Y.tyD_dk ?h); (case h => walk_at "mu"))
  | rfl)
local macro_rules | `(tactic| walk_at "sz") => `(tactic| first
  | (with_reducible assumption)
  | (refine Y.sz_le ?_; simp only [List.length_cons, List.length_nil, List.length_append, List.length_map]; omega)
  | (refine Y.sz_lt ?_; simp only [List.length_cons, List.length_nil, List.length_append, List.length_map]; omega)
  | (refine Y.sz_le ?_; omega)
  | (refine Y.sz_lt ?_; omega)
  | (refine Y.sz_le ?_; decide +kernel)
  | (refine Y.sz_lt ?_; decide +kernel))
local macro_rules | `(tactic| walk_at "g") => `(tactic| first
  | trivial
  | (show Y.asL _ _ = _; walk_at "as")
  | (refine ⟨?_, ?_⟩ <;> walk_at "g"))
local macro_rules | `(tactic| walk_at "isi") => `(tactic| first
      | exact Y.isi_ii | exact Y.isi_bi | exact Y.isi_si | exact Y.isi_ni | exact Y.isi_li | exact Y.isi_ti | exact Y.isi_di
      | exact Y.isi_ib | exact Y.isi_bb | exact Y.isi_sb | exact Y.isi_nb | exact Y.isi_lb | exact Y.isi_tb | exact Y.isi_db
      | exact Y.isi_is | exact Y.isi_bs | exact Y.isi_ss | exact Y.isi_ns | exact Y.isi_ls | exact Y.isi_ts | exact Y.isi_ds
      | exact Y.isi_il | exact Y.isi_bl | exact Y.isi_sl | exact Y.isi_nl | exact Y.isi_ll | exact Y.isi_tl | exact Y.isi_dl
      | exact Y.isi_it | exact Y.isi_bt | exact Y.isi_st | exact Y.isi_nt | exact Y.isi_lt | exact Y.isi_tt | exact Y.isi_dt)
local macro_rules | `(tactic| walk_at "kl") => `(tactic| first
  | exact Y.kitL_nil
  | (refine' Y.kitL_hit ?h; (case h => walk_at "isi"))
  | (refine' Y.kitL_miss ?h ?h2; (case h => walk_at "isi"); (case h2 => walk_at "kl")))
local macro_rules | `(tactic| walk_at "lk") => `(tactic| first
  | exact Y.lk_hit
  | (refine' Y.lk_miss ?h ?h2; (case h => decide +kernel); (case h2 => walk_at "lk")))
local macro_rules | `(tactic| walk_at "ln") => `(tactic| first
  | exact Y.lk_nil
  | (refine' Y.lk_no ?h ?h2; (case h => decide +kernel); (case h2 => walk_at "ln")))
local macro_rules | `(tactic| walk_at "sf") => `(tactic| first
  | exact Y.setF_nil
  | exact Y.setF_hit
  | (refine' Y.setF_miss ?h ?h2; (case h => decide +kernel); (case h2 => walk_at "sf")))
local macro_rules | `(tactic| walk_at "fl") => `(tactic| first
  | ((with_reducible refine' Y.fldsOf_adr ?h); (case h => walk_at "mu"))
  | ((with_reducible refine' Y.fldsOf_obj ?h); (case h => rfl)))
local macro_rules | `(tactic| walk_at "br") => `(tactic| first
  | (with_reducible refine' Y.br_t ?_)
  | (with_reducible refine' Y.br_f ?_)
  | (with_reducible refine' Y.br_not ?_)
  | (with_reducible refine' Y.br_and ?_)
  | (with_reducible refine' Y.br_or ?_)
  | ((with_reducible refine' Y.br_decT ?h ?_); (case h => first | assumption | decide +kernel | omega))
  | ((with_reducible refine' Y.br_decF ?h ?_); (case h => first | assumption | decide +kernel | omega)))
local macro_rules | `(tactic| walk_at "y1") => `(tactic| first
  | (with_reducible refine' Y.w_seq ?_)
  | ((with_reducible refine' Y.w_var ?h ?_); (case h => rfl))
  | (with_reducible refine' Y.w_c ?_)
  | (with_reducible refine' Y.w_op ?_)
  | (with_reducible refine' Y.w_un ?_)
  | (with_reducible refine' Y.w_asg ?_)
  | (with_reducible refine' Y.w_gN ?_)
  | (with_reducible refine' Y.w_ret ?_)
  | (with_reducible refine' Y.w_ifS ?_)
  | (with_reducible refine' Y.w_val ?_)
  | (with_reducible refine' Y.w_tail ?_)
  | (with_reducible refine' Y.w_and ?_)
  | (with_reducible refine' Y.w_or ?_)
  | (with_reducible refine' Y.w_not ?_)
  | (with_reducible refine' Y.w_if ?_)
  | (with_reducible refine' Y.w_andV ?_)
  | (with_reducible refine' Y.w_orV ?_)
  | (with_reducible refine' Y.w_notV ?_)
  | (with_reducible refine' Y.w_notK ?_)
  | (with_reducible refine' Y.w_chain ?_)
  | (with_reducible refine' Y.w_call ?_)
  | (with_reducible refine' Y.w_cb ?_)
  | (with_reducible refine' Y.w_nil ?_)
  | (with_reducible refine' Y.w_cons ?_)
  | (with_reducible refine' Y.w_tup ?_)
  | ((with_reducible refine' Y.w_tupK ?h ?_); (case h => walk_at "sz"))
  | (with_reducible refine' Y.w_lst ?_)
  | (with_reducible refine' Y.w_fz ?_)
  | (with_reducible refine' Y.w_fzN (by assumption) ?_)
  | (with_reducible refine' Y.w_fzL ?_)
  | (with_reducible refine' Y.w_fzL1 (by assumption) ?_)
  | (intro p hp; (with_reducible refine' Y.w_fzN (by assumption) ?_))
  | (intro p hp; (with_reducible refine' Y.w_fzL1 (by assumption) ?_))
  | (with_reducible refine' Y.w_fzL0 ?_)
  | ((with_reducible refine' Y.w_disp ?_); (intro p hp))
  | ((with_reducible refine' Y.w_dnew ?_); (intro p hp))
  | (with_reducible refine' Y.w_leS ?_)
  | ((with_reducible refine' Y.w_listText ?h ?_); (case h => walk_at "sz"))
  | ((with_reducible refine' Y.w_tupText ?h ?_); (case h => walk_at "sz"))
  | (with_reducible refine' Y.w_pairs ?_)
  | (with_reducible refine' Y.w_pairs0 ?_)
  | ((with_reducible refine' Y.w_dispE ?h ?e ?l ?_); (case h => walk_at "mu"); (case e => rfl); (case l => exact Nat.le_of_ble_eq_true rfl))
  | ((with_reducible refine' Y.w_dgetS ?h ?h2 ?_); (case h => walk_at "mu"); (case h2 => rfl))
  | ((with_reducible refine' Y.w_dgetI ?h ?h2 ?_); (case h => walk_at "mu"); (case h2 => rfl))
  | ((with_reducible refine' Y.w_inDS ?h ?_); (case h => walk_at "mu"))
  | ((with_reducible refine' Y.w_inDI ?h ?_); (case h => walk_at "mu"))
  | ((with_reducible refine' Y.w_notInDS ?h ?_); (case h => walk_at "mu"))
  | ((with_reducible refine' Y.w_notInDI ?h ?_); (case h => walk_at "mu"))
  | ((with_reducible refine' Y.w_newL ?h ?_); (case h => walk_at "sz"))
  | (with_reducible refine' Y.w_addI ?_)
  | ((with_reducible refine' Y.w_addT ?h ?_); (case h => walk_at "sz"))
  | ((with_reducible refine' Y.w_addS ?h ?_); (case h => walk_at "sz"))
  | ((with_reducible refine' Y.w_addL ?h ?h2 ?_); (case h => walk_at "as"); (case h2 => walk_at "as"))
  | (with_reducible refine' Y.w_sub ?_)
  | ((with_reducible refine' Y.w_mulI ?h ?_); (case h => first | exact Y.cmul_r (by omega) (by omega) | exact Y.cmul_l (by omega) (by omega)))
  | ((with_reducible refine' Y.w_mulL ?h (by decide) (by decide) ?_); (case h => walk_at "as"))
  | ((with_reducible refine' Y.w_mod ?h ?_); (case h => first | decide | omega))
  | ((with_reducible refine' Y.w_fdiv ?h ?_); (case h => exact Y.cdiv_small (by omega) (by omega)))
  | ((with_reducible refine' Y.w_pow ?h ?_); (case h => exact Y.cpow_small (by omega) (by omega) (by decide)))
  | ((with_reducible refine' Y.w_shl1 ?h ?_); (case h => first | omega | assumption))
  | ((with_reducible refine' Y.w_shl ?h ?_); (case h => exact Y.cpow_small (by omega) (by omega) (by first | decide | omega)))
  | ((with_reducible refine' Y.w_shr ?h ?_); (case h => first | decide | omega))
  | (with_reducible refine' Y.w_bitand ?_)
  | (with_reducible refine' Y.w_bitor ?_)
  | (with_reducible refine' Y.w_bitxor ?_)
  | (with_reducible refine' Y.w_neg ?_)
  | (with_reducible refine' Y.w_lt ?_)
  | (with_reducible refine' Y.w_le ?_)
  | (with_reducible refine' Y.w_gt ?_)
  | (with_reducible refine' Y.w_ge ?_)
  | ((with_reducible refine' Y.w_eqS ?h ?_); (case h => rfl))
  | ((with_reducible refine' Y.w_neS ?h ?_); (case h => rfl))
  | ((with_reducible refine' Y.w_eqD ?h ?h2 ?_); (case h => rfl); (case h2 => rfl))
  | ((with_reducible refine' Y.w_neD ?h ?h2 ?_); (case h => rfl); (case h2 => rfl))
  | (with_reducible refine' Y.w_isN1 ?_)
  | (with_reducible refine' Y.w_notN1 ?_)
  | (with_reducible refine' Y.w_isB ?_)
  | (with_reducible refine' Y.w_notB ?_)
  | ((with_reducible refine' Y.w_isN0 ?h ?_); (case h => (intro z; cases z)))
  | ((with_reducible refine' Y.w_notN0 ?h ?_); (case h => (intro z; cases z)))
  | ((with_reducible refine' Y.w_ixT ?h ?_); (case h => rfl))
  | ((with_reducible refine' Y.w_ixL ?h ?_); (case h => rfl))
  | ((with_reducible refine' Y.w_ixS ?h ?h2 ?_); (case h => walk_at "as"); (case h2 => rfl))
  | (with_reducible refine' Y.w_lenT ?_)
  | (with_reducible refine' Y.w_lenR ?_)
  | ((with_reducible refine' Y.w_lenL ?h ?_); (case h => walk_at "as"))
  | ((with_reducible refine' Y.w_lenS ?h ?_); (case h => walk_at "sz"))
  | (with_reducible refine' Y.w_int1 ?_)
  | (with_reducible refine' Y.w_intB ?_)
  | (with_reducible refine' Y.w_max2 ?_)
  | (with_reducible refine' Y.w_min2 ?_)
  | ((with_reducible refine' Y.w_isi ?h ?h2 ?_); (case h => walk_at "ty"); (case h2 => walk_at "isi"))
  | ((with_reducible refine' Y.w_tupOf ?h ?_); (case h => walk_at "as"))
  | ((with_reducible refine' Y.w_listOf ?h ?_); (case h => walk_at "as"))
  | (with_reducible refine' Y.w_sl ?_)
  | (with_reducible refine' Y.w_noPart ?_)
  | (with_reducible refine' Y.w_part ?_)
  | (with_reducible refine' Y.w_partK ?_)
  | (with_reducible refine' Y.w_cutT ?_)
  | ((with_reducible refine' Y.w_cutS ?h ?_); (case h => walk_at "sz"))
  | ((with_reducible refine' Y.w_cutL ?h ?_); (case h => walk_at "as"))
  | (with_reducible refine' Y.w_drop ?_)
  | (with_reducible refine' Y.w_bm ?_)
  | (with_reducible refine' Y.w_bm0 ?_)
  | (with_reducible refine' Y.w_m1 ?_)
  | (with_reducible refine' Y.w_tyS ?_)
  | ((with_reducible refine' Y.w_tyL ?h ?_); (case h => walk_at "as"))
  | ((with_reducible refine' Y.w_app ?h ?h2 ?_); (case h => walk_at "mu"); (case h2 => walk_at "sz"))
  | ((with_reducible refine' Y.w_extend ?h ?h2 ?h3 ?_); (case h => walk_at "mu"); (case h2 => walk_at "as"); (case h3 => walk_at "sz"))
  | ((with_reducible refine' Y.w_clear ?h ?_); (case h => walk_at "mu"))
  | ((with_reducible refine' Y.w_reverse ?h ?_); (case h => walk_at "mu"))
  | (with_reducible refine' Y.w_repl ?_)
  | (with_reducible refine' Y.w_gIx ?_)
  | ((with_reducible refine' Y.w_gIxK ?h ?h2 ?_); (case h => walk_at "mu"); (case h2 => rfl))
  | ((with_reducible refine' Y.w_gUnT ?h ?_); (case h => rfl))
  | ((with_reducible refine' Y.w_gUn ?h ?h2 ?_); (case h => walk_at "as"); (case h2 => rfl))
  | (with_reducible refine' Y.w_gCons ?_)
  | (with_reducible refine' Y.w_gNil ?_)
  | ((with_reducible refine' Y.w_gConsE ?e ?_); (case e => rfl))
  | ((with_reducible refine' Y.w_gNilE ?e ?_); (case e => rfl))
  | (with_reducible refine' Y.w_next ?_)
  | (with_reducible refine' Y.w_for ?_)
  | (with_reducible refine' Y.w_jL ?_)
  | ((with_reducible refine' Y.w_jLK ?h ?_); (case h => walk_at "as"))
  | (with_reducible refine' Y.w_jT ?_)
  | (with_reducible refine' Y.w_jTK ?_)
  | (with_reducible refine' Y.w_jS ?_)
  | (with_reducible refine' Y.w_jSK ?_)
  | (with_reducible refine' Y.w_jR1 ?_)
  | ((with_reducible refine' Y.w_jR1K ?h ?h2 ?_); (case h => omega); (case h2 => omega))
  | (with_reducible refine' Y.w_jR2 ?_)
  | ((with_reducible refine' Y.w_jR2K ?h ?_); (case h => omega))
  | (with_reducible refine' Y.w_jZ ?_)
  | (with_reducible refine' Y.w_jZT ?_)
  | ((with_reducible refine' Y.w_jZL ?h ?h2 ?_); (case h => walk_at "as"); (case h2 => walk_at "as"))
  | (with_reducible refine' Y.w_jE ?_)
  | ((with_reducible refine' Y.w_jEL ?h ?_); (case h => walk_at "as"))
  | (with_reducible refine' Y.w_jV ?_)
  | (with_reducible refine' Y.w_jVT ?_)
  | ((with_reducible refine' Y.w_jVL ?h ?_); (case h => walk_at "as"))
  | (with_reducible refine' Y.w_revL ?_)
  | ((with_reducible refine' Y.w_revK ?h ?_); (case h => walk_at "as"))
  | (with_reducible refine' Y.w_lc ?_)
  | (with_reducible refine' Y.w_yes ?_)
  | ((with_reducible refine' Y.w_lcK ?h ?_); (case h => walk_at "sz"))
  | (with_reducible refine' Y.w_isiT ?_)
  | ((with_reducible refine' Y.w_isiTK ?h ?h2 ?_); (case h => walk_at "ty"); (case h2 => walk_at "kl"))
  | (with_reducible refine' Y.w_fld ?_)
  | ((with_reducible refine' Y.w_fldK ?h ?h2 ?_); (case h => walk_at "fl"); (case h2 => walk_at "lk"))
  | (with_reducible refine' Y.w_putF ?_)
  | ((with_reducible refine' Y.w_putFK ?h ?h2 ?h3 ?_); (case h => walk_at "mu"); (case h2 => walk_at "sf"); (case h3 => (simp only [List.length_cons, List.length_nil]; omega)))
  | (with_reducible refine' Y.w_meth ?_)
  | ((with_reducible refine' Y.w_methK ?h ?h2 ?_); (case h => walk_at "fl"); (case h2 => walk_at "ln"))
  | (with_reducible refine' Y.w_make ?_)
  | (with_reducible refine' Y.w_fzO ?_)
  | ((with_reducible refine' Y.w_fzOK ?h ?_); (case h => walk_at "mu"))
  | walk_at "br")
local macro_rules | `(tactic| walk_at "y") => `(tactic| repeat walk_at "y1")
local macro_rules | `(tactic| walk_at "t1") => `(tactic| first
  | (with_reducible refine' Y.Cl.same ?_)
  | ((with_reducible refine' Y.w_turn ?h ?_); (case h => walk_at "g"))
  | ((with_reducible refine' Y.w_turn0 ?h ?_); (case h => walk_at "g"))
  | ((with_reducible refine' Y.w_lcs ?h ?_); (case h => walk_at "g"))
  | ((with_reducible refine' Y.w_lcs0 ?h ?_); (case h => walk_at "g"))
  | ((with_reducible refine' Y.w_lcsE ?e ?h ?_); (case e => rfl); (case h => walk_at "g"))
  | ((with_reducible refine' Y.w_lcs0E ?e ?h ?_); (case e => rfl); (case h => walk_at "g"))
  | ((with_reducible refine' Y.w_turnE ?e ?h ?_); (case e => rfl); (case h => walk_at "g"))
  | ((with_reducible refine' Y.w_turn0E ?e ?h ?_); (case e => rfl); (case h => walk_at "g")))
local macro_rules | `(tactic| walk_at "c1") => `(tactic| first
  | ((with_reducible refine' Y.w_turn ?h ?_); (case h => walk_at "g"))
  | ((with_reducible refine' Y.w_turn0 ?h ?_); (case h => walk_at "g"))
  | ((with_reducible refine' Y.w_lcs ?h ?_); (case h => walk_at "g"))
  | ((with_reducible refine' Y.w_lcs0 ?h ?_); (case h => walk_at "g"))
  | ((with_reducible refine' Y.w_lcsE ?e ?h ?_); (case e => rfl); (case h => walk_at "g"))
  | ((with_reducible refine' Y.w_lcs0E ?e ?h ?_); (case e => rfl); (case h => walk_at "g"))
  | ((with_reducible refine' Y.w_turnE ?e ?h ?_); (case e => rfl); (case h => walk_at "g"))
  | ((with_reducible refine' Y.w_turn0E ?e ?h ?_); (case e => rfl); (case h => walk_at "g")))
local macro_rules | `(tactic| walk_at "yc") => `(tactic| repeat first | walk_at "y1" | walk_at "c1")
local macro_rules | `(tactic| walk_at "yt") => `(tactic| repeat first | walk_at "y1" | walk_at "t1")
local macro_rules | `(tactic| walk_at "less") => `(tactic| first
  | exact trivial
  | (refine ⟨Or.inl rfl, ?_⟩; walk_at "less")
  | (refine ⟨Or.inr rfl, ?_⟩; walk_at "less"))
local macro_rules | `(tactic| walk_at "non") => `(tactic| first
  | (with_reducible assumption)
  | ((with_reducible refine' Y.none_sub ?s ?h); (case h => (with_reducible assumption)); (case s => walk_at "sub")))
local macro_rules | `(tactic| walk_at "sub") => `(tactic| first
  | (with_reducible exact Y.Sub.refl)
  | (with_reducible assumption)
  | ((with_reducible refine' Y.Sub.over ?h ?hp); (case hp => walk_at "non"); (case h => walk_at "sub"))
  | ((with_reducible refine' Y.Sub.del ?h ?hp); (case hp => walk_at "non"); (case h => walk_at "sub"))
  | ((with_reducible refine' Y.Sub.trans ?h (Y.Sub.new ?hp)); (case hp => (with_reducible assumption)); (case h => walk_at "sub")))

namespace W
open PySem PySem.Spec PyProof.Rows L2 Y
def topS (i : Nat) : Stmt := PySem.Challenge.pw_rowsbeneath_k28_parts_and_what_sets_rest.main.body.getD i (.Pass ⟨0, 0, 0, 0⟩)
abbrev sParts_init : Stmt := inClass (topS 1) 0
abbrev nParts_init : List Str := ["self"]
theorem scParts_init : FnScope ["self"] ["self"] (defScope sParts_init) := ⟨rfl, rfl, rfl, by decide +kernel, rfl, by decide +kernel, by decide +kernel⟩
abbrev sParts_part_in : Stmt := inClass (topS 1) 1
abbrev nParts_part_in : List Str := ["self", "e", "own", "one"]
theorem scParts_part_in : FnScope ["self", "e", "own", "one"] ["self", "e"] (defScope sParts_part_in) := ⟨rfl, rfl, rfl, by decide +kernel, rfl, by decide +kernel, by decide +kernel⟩
abbrev srests_of : Stmt := topS 2
abbrev nrests_of : List Str := ["one"]
theorem scrests_of : FnScope ["one"] ["one"] (defScope srests_of) := ⟨rfl, rfl, rfl, by decide +kernel, rfl, by decide +kernel, by decide +kernel⟩
abbrev sparts_and_roots : Stmt := topS 3
abbrev nparts_and_roots : List Str := ["sets", "parts", "roots", "one", "e"]
theorem scparts_and_roots : FnScope ["sets", "parts", "roots", "one", "e"] ["sets"] (defScope sparts_and_roots) := ⟨rfl, rfl, rfl, by decide +kernel, rfl, by decide +kernel, by decide +kernel⟩
abbrev sparts_of : Stmt := topS 4
abbrev nparts_of : List Str := ["sets", "parts", "roots"]
theorem scparts_of : FnScope ["sets", "parts", "roots"] ["sets"] (defScope sparts_of) := ⟨rfl, rfl, rfl, by decide +kernel, rfl, by decide +kernel, by decide +kernel⟩
abbrev sroots_of : Stmt := topS 5
abbrev nroots_of : List Str := ["sets", "parts", "roots"]
theorem scroots_of : FnScope ["sets", "parts", "roots"] ["sets"] (defScope sroots_of) := ⟨rfl, rfl, rfl, by decide +kernel, rfl, by decide +kernel, by decide +kernel⟩
abbrev sLcell : Stmt := topS 7
abbrev nLcell : List Str := ["_law_script", "_law_k"]
theorem scLcell : FnScope ["_law_script", "_law_k"] ["_law_script", "_law_k"] (defScope sLcell) := ⟨rfl, rfl, rfl, by decide +kernel, rfl, by decide +kernel, by decide +kernel⟩
abbrev sLstream : Stmt := topS 8
abbrev nLstream : List Str := ["_law_cell_here"]
theorem scLstream : FnScope ["_law_cell_here"] ["_law_cell_here"] (defScope sLstream) := ⟨rfl, rfl, rfl, by decide +kernel, rfl, by decide +kernel, by decide +kernel⟩
abbrev sLtake : Stmt := topS 9
abbrev nLtake : List Str := ["_law_stream_here", "_law_many", "_law_digit", "_law_number"]
theorem scLtake : FnScope ["_law_stream_here", "_law_many", "_law_digit", "_law_number"] ["_law_stream_here", "_law_many"] (defScope sLtake) := ⟨rfl, rfl, rfl, by decide +kernel, rfl, by decide +kernel, by decide +kernel⟩
abbrev sLe : Stmt := topS 10
abbrev nLe : List Str := ["_law_stream_here", "_law_deep", "_law_way", "_law_sel", "_law_number", "_law_field", "_law_op"]
theorem scLe : FnScope ["_law_stream_here", "_law_deep", "_law_way", "_law_sel", "_law_number", "_law_field", "_law_op"] ["_law_stream_here", "_law_deep"] (defScope sLe) := ⟨rfl, rfl, rfl, by decide +kernel, rfl, by decide +kernel, by decide +kernel⟩
abbrev sLsets : Stmt := topS 11
abbrev nLsets : List Str := ["_law_stream_here", "_law_sets_here", "_law_deep", "_law_k", "_law_way", "_law_sel", "_law_one"]
theorem scLsets : FnScope ["_law_stream_here", "_law_sets_here", "_law_deep", "_law_k", "_law_way", "_law_sel", "_law_one"] ["_law_stream_here"] (defScope sLsets) := ⟨rfl, rfl, rfl, by decide +kernel, rfl, by decide +kernel, by decide +kernel⟩
abbrev sLpart : Stmt := topS 12
abbrev nLpart : List Str := ["_law_e_here", "_law_parts_here", "_law_inner", "_law_one", "_law_other"]
theorem scLpart : FnScope ["_law_e_here", "_law_parts_here", "_law_inner", "_law_one", "_law_other"] ["_law_e_here", "_law_parts_here"] (defScope sLpart) := ⟨rfl, rfl, rfl, by decide +kernel, rfl, by decide +kernel, by decide +kernel⟩
abbrev sLparts : Stmt := topS 13
abbrev nLparts : List Str := ["_law_sets_here", "_law_parts_here", "_law_roots", "_law_one", "_law_first"]
theorem scLparts : FnScope ["_law_sets_here", "_law_parts_here", "_law_roots", "_law_one", "_law_first"] ["_law_sets_here"] (defScope sLparts) := ⟨rfl, rfl, rfl, by decide +kernel, rfl, by decide +kernel, by decide +kernel⟩
abbrev sLis : Stmt := topS 14
abbrev nLis : List Str := ["_law_found", "_law_due", "_law_row", "_law_one"]
theorem scLis : FnScope ["_law_found", "_law_due", "_law_row", "_law_one"] ["_law_found", "_law_due"] (defScope sLis) := ⟨rfl, rfl, rfl, by decide +kernel, rfl, by decide +kernel, by decide +kernel⟩
abbrev slaw : Stmt := topS 15
abbrev nlaw : List Str := ["_law_script", "_law_k", "_law_stream_here", "_law_both", "_law_turn", "_law_sets_here", "_law_parts_here", "_law_roots", "_law_found"]
theorem sclaw : FnScope ["_law_script", "_law_k", "_law_stream_here", "_law_both", "_law_turn", "_law_sets_here", "_law_parts_here", "_law_roots", "_law_found"] ["_law_script"] (defScope slaw) := ⟨rfl, rfl, rfl, by decide +kernel, rfl, by decide +kernel, by decide +kernel⟩
structure Tt (K : PySem.W.Frag) (mg : Str → Option Value) (cc : Nat → Addr) : Prop where
  k_Parts : Kl K mg "Parts" (cc 0)
  xParts_init : Tm K (cc 0) "__init__" "Parts.__init__" sParts_init ["self"]
  xParts_part_in : Tm K (cc 0) "part_in" "Parts.part_in" sParts_part_in ["self", "e"]
  xrests_of : Tx K mg "rests_of" srests_of ["one"]
  xparts_and_roots : Tx K mg "parts_and_roots" sparts_and_roots ["sets"]
  xparts_of : Tx K mg "parts_of" sparts_of ["sets"]
  xroots_of : Tx K mg "roots_of" sroots_of ["sets"]
  xLcell : Tx K mg "_law_cell" sLcell ["_law_script", "_law_k"]
  xLstream : Tx K mg "_law_stream" sLstream ["_law_cell_here"]
  xLtake : Tx K mg "_law_take" sLtake ["_law_stream_here", "_law_many"]
  xLe : Tx K mg "_law_e" sLe ["_law_stream_here", "_law_deep"]
  xLsets : Tx K mg "_law_sets" sLsets ["_law_stream_here"]
  xLpart : Tx K mg "_law_part" sLpart ["_law_e_here", "_law_parts_here"]
  xLparts : Tx K mg "_law_parts" sLparts ["_law_sets_here"]
  xLis : Tx K mg "_law_is" sLis ["_law_found", "_law_due"]
  xlaw : Tx K mg "law" slaw ["_law_script"]
  b_bool : mg "bool" = none
  b_int : mg "int" = none
  b_isinstance : mg "isinstance" = none
  b_len : mg "len" = none
  b_list : mg "list" = none
  b_max : mg "max" = none
  b_min : mg "min" = none
  b_range : mg "range" = none
  b_str : mg "str" = none
  b_tuple : mg "tuple" = none
  n_Parts_rows : NoAttr K (cc 0) "rows"
variable {P : Program} {w : World} {K : PySem.W.Frag} {mg : Str → Option Value} {base : Heap} {cc : Nat → Addr}
/-- a stream: three ints -/
def Strm (μ : Mu) (s : Addr) : Prop := ∃ a b c : Int, μ s = some (.lst [.int a, .int b, .int c])
/-- a stream was drawn from, nothing else changed -/
def Tk (s : Addr) (μ μ' : Mu) : Prop := Strm μ' s ∧ ∀ b, b ≠ s → μ' b = μ b
theorem Tk.refl {s : Addr} {μ : Mu} (h : Strm μ s) : Tk s μ μ := ⟨h, fun _ _ => rfl⟩
theorem Tk.trans {s : Addr} {μ μ1 μ2 : Mu} (a : Tk s μ μ1) (b : Tk s μ1 μ2) : Tk s μ μ2 := ⟨b.1, fun x h => (b.2 x h).trans (a.2 x h)⟩
theorem Tk.st {s : Addr} {μ μ' : Mu} (a : Tk s μ μ') : Strm μ' s := a.1
theorem Strm.some {s : Addr} {μ : Mu} (h : Strm μ s) : ∃ m, μ s = some m := by obtain ⟨a, b, c, e⟩ := h; exact ⟨_, e⟩
theorem Tk.keep {s p : Addr} {μ μ' : Mu} {r : Option MO} (a : Tk s μ μ') (h : μ p = r) (hp : p ≠ s) : μ' p = r := (a.2 p hp).trans h
theorem Tk.none {s p : Addr} {μ μ' : Mu} (a : Tk s μ μ') (h : μ p = none) (hs : Strm μ s) : μ' p = none := by
  obtain ⟨_, _, _, e⟩ := hs
  exact (a.2 p (fun z => by rw [z, e] at h; cases h)).trans h
theorem Strm.new {s p : Addr} {μ : Mu} {m : MO} (h : Strm μ s) (hp : μ p = none) : Strm (mup μ p m) s := by
  obtain ⟨a, b, c, e⟩ := h
  exact ⟨a, b, c, by rw [mup_ne (ne_new hp e)]; exact e⟩
theorem Strm.ne {s p : Addr} {μ : Mu} (h : Strm μ s) (hp : μ p = none) : p ≠ s := by
  obtain ⟨a, b, c, e⟩ := h
  exact ne_new' hp e
/-! ### _law_cell -/
def spLcell : Sp2 := fun ds μ Q _ => ∃ ns k, ds = [.scr ns, .int k] ∧ 0 ≤ k ∧ k < 1000000 ∧ ∀ n, Q (.int n) μ
theorem DLcell (T : Tt K mg cc) : Df P w K mg base "_law_cell" 1 ["_law_script", "_law_k"] (spLcell) := by
  refine T.xLcell.ok scLcell (by rintro ds μ Q E ⟨ns, k, rfl, h0, h1, q⟩; rfl) (fun f cdv A outer s H E hr => ⟨_, _, (b_cons (s_if (t_lt (e_pv 1 (pv 1)) (e_len (by rfl) T.b_len (a_cons (e_pv 0 (pv 0)) a_nil)))
      (b_one (s_ret (e_ixScr (e_pv 0 (pv 0)) (e_pv 1 (pv 1)) (fun _ _ => rfl))))
      b_nil)
      (b_one (s_ret (e_add (e_mulA e_int (e_pv 1 (pv 1))) e_int)))), ?_⟩)
  rintro ds μ Q E ⟨ns, k, rfl, h0, h1, q⟩
  walk_at "y"
  refine br_dec (fun h => ?_) (fun h => ?_)
  · walk_at "y"
    obtain ⟨n, e, _⟩ := atI_ex h0 h
    exact w_ixScr e (RtC.same (q _))
  · walk_at "y"
    exact RtC.same (q _)
/-! ### _law_stream -/
def spLstream : Sp2 := fun ds μ Q _ => ∃ c, ds = [.int c] ∧ ∀ p μ', μ p = none → Strm μ' p → (∀ b, b ≠ p → μ' b = μ b) → Q (.adr p) μ'
theorem DLstream (T : Tt K mg cc) : Df P w K mg base "_law_stream" 1 ["_law_cell_here"] (spLstream) := by
  refine T.xLstream.ok scLstream (by rintro ds μ Q E ⟨c, rfl, q⟩; rfl) (fun f cdv A outer s H E hr => ⟨_, _, (b_one (s_ret (e_lst (a_cons (e_mulA (e_pv 0 (pv 0)) (e_int1 (by rfl) T.b_int (a_cons (e_ge (e_pv 0 (pv 0)) (e_pow e_int e_int)) a_nil))) (a_cons (e_mod (e_pv 0 (pv 0)) e_int) (a_cons e_int a_nil)))))), ?_⟩)
  rintro ds μ Q E ⟨c, rfl, q⟩
  walk_at "y"
  intro p hp
  walk_at "y"
  exact RtC.same (q _ _ hp ⟨_, _, _, mup_same⟩ (fun b hb => mup_ne hb))
/-! ### _law_take -/
def spLtake : Sp2 := fun ds μ Q _ => ∃ s n, ds = [.adr s, .int n] ∧ Strm μ s ∧ 0 < n ∧ n < 1606938044258990275541962092341162602522202993782792835301376 ∧ ∀ r μ', 0 ≤ r → r < n → Tk s μ μ' → Q (.int r) μ'
theorem DLtake (T : Tt K mg cc) : Df P w K mg base "_law_take" 1 ["_law_stream_here", "_law_many"] (spLtake) := by
  refine T.xLtake.ok scLtake (by rintro ds μ Q E ⟨s, n, rfl, ⟨a, b, c, hs⟩, h0, h1, q⟩; rfl) (fun f cdv A outer s H E hr => ⟨_, _, (b_cons (s_if (t_gt (e_ix (e_pv 0 (pv 0)) e_int (fun _ _ => rfl)) e_int)
      (b_cons (s_set (i := 2) (e_mod (e_ix (e_pv 0 (pv 0)) e_int (fun _ _ => rfl)) (e_pv 1 (pv 1))) scLtake.nd rfl (by first | exact Or.inl rfl | exact Or.inr rfl))
      (b_cons (s_setIx (e_fdiv (e_ix (e_pv 0 (pv 0)) e_int (fun _ _ => rfl)) (e_pv 1 (pv 1))) (e_pv 0 (pv 0)) e_int)
      (b_one (s_ret (e_pv 2 (pv 2))))))
      b_nil)
      (b_cons (s_setIx (e_add (e_ix (e_pv 0 (pv 0)) e_int (fun _ _ => rfl)) e_int) (e_pv 0 (pv 0)) e_int)
      (b_cons (s_set (i := 3) (e_mod (e_add (e_mulA (e_add (e_ix (e_pv 0 (pv 0)) e_int (fun _ _ => rfl)) (e_mulA e_int (e_ix (e_pv 0 (pv 0)) e_int (fun _ _ => rfl)))) e_int) e_int) e_int) scLtake.nd rfl (by first | exact Or.inl rfl | exact Or.inr rfl))
      (b_cons (s_set (i := 3) (e_mod (e_mulA (e_pv 3 (pv 3)) (e_pv 3 (pv 3))) e_int) scLtake.nd rfl (by first | exact Or.inl rfl | exact Or.inr rfl))
      (b_one (s_ret (e_mod (e_fdiv (e_mod (e_add (e_mulA (e_pv 3 (pv 3)) (e_pv 3 (pv 3))) (e_mulA e_int (e_ix (e_pv 0 (pv 0)) e_int (fun _ _ => rfl)))) e_int) e_int) (e_pv 1 (pv 1))))))))), ?_⟩)
  rintro ds μ Q E ⟨s, n, rfl, ⟨a, b, c, hs⟩, h0, h1, q⟩
  walk_at "y"
  refine br_dec (fun h => ?_) (fun h => ?_)
  · walk_at "y"
    exact RtC.same (q _ _ (Int.emod_nonneg _ (by omega)) (Int.emod_lt_of_pos _ h0) ⟨⟨_, _, _, mup_same⟩, fun b hb => mup_ne hb⟩)
  · walk_at "y"
    exact RtC.same (q _ _ (Int.emod_nonneg _ (by omega)) (Int.emod_lt_of_pos _ h0) ⟨⟨_, _, _, mup_same⟩, fun b hb => mup_ne hb⟩)

/-- a text of no more than so many signs, all of them signs -/
def TOk (n : Nat) (z : Str) : Prop := z.length ≤ n ∧ PyData.strOk z = true
theorem TOk.mono {n m : Nat} {z : Str} (h : TOk n z) (l : n ≤ m) : TOk m z := ⟨Nat.le_trans h.1 l, h.2⟩
theorem len_app (a b : Str) : (a ++ b).length = a.length + b.length := by
  show (a.cps ++ b.cps).size = _
  rw [Array.size_append]; rfl
theorem TOk.app {n m : Nat} {a b : Str} (h : TOk n a) (g : TOk m b) : TOk (n + m) (a ++ b) := by
  refine ⟨by rw [len_app]; have := h.1; have := g.1; omega, ?_⟩
  show (a.cps ++ b.cps).all (· < 0x110000) = true
  rw [Array.all_append]
  exact Bool.and_eq_true _ _ ▸ ⟨h.2, g.2⟩
theorem len_cut (z : Str) (lo hi : Option Int) : (cutS z lo hi).length ≤ z.length := by
  show (((z.cps.toList.drop _).take _).toArray).size ≤ z.cps.size
  rw [List.size_toArray, List.length_take, List.length_drop, Array.length_toList]; omega
theorem TOk.cut {n : Nat} {z : Str} (h : TOk n z) (lo hi : Option Int) : TOk n (cutS z lo hi) := by
  refine ⟨Nat.le_trans (len_cut z lo hi) h.1, ?_⟩
  have h2 := h.2
  show (((z.cps.toList.drop _).take _).toArray).all (· < 0x110000) = true
  rw [List.all_toArray, List.all_eq_true]
  intro c hc
  have h3 : z.cps.toList.all (· < 0x110000) = true := by rw [Array.all_toList]; exact h2
  exact List.all_eq_true.mp h3 c (List.mem_of_mem_drop (List.mem_of_mem_take hc))
/-- a small letter -/
def inL (c : Nat) : Bool := decide (97 ≤ c ∧ c ≤ 122)
theorem letters_in (c : Nat) : decide (c ∈ ("abcdefghijklmnopqrstuvwxyz" : Str).cps.toList) = inL c := by
  rw [show ("abcdefghijklmnopqrstuvwxyz" : Str).cps.toList = [97, 98, 99, 100, 101, 102, 103, 104, 105, 106, 107, 108, 109, 110, 111, 112, 113, 114, 115, 116, 117, 118, 119, 120, 121, 122] by decide +kernel]
  unfold inL
  refine decide_eq_decide.mpr ?_
  simp only [List.mem_cons, List.not_mem_nil, or_false]
  omega
abbrev ownL : List Str := ["word", "cells", "depth", "places", "marks", "gate", "kind", "place", "mark", "number", "row", "set", "if", "else", "top", "next", "go", "call", "back", "stop", "fault", "bell"]
theorem own_split : Txt.split ("word cells depth places marks gate kind place mark number row set if else top next go call back stop fault bell" : Str) (" " : Str) = ownL := by decide +kernel
theorem own_split2 : Txt.split (("word cells depth places marks gate kind place mark number row" : Str) ++ (" set if else top next go call back stop fault bell" : Str)) (" " : Str) = ownL := by decide +kernel
theorem own_ok : ∀ z ∈ ownL, TOk 6 z := by
  have h : ownL.all (fun z : Str => (Nat.ble z.length 6 && PyData.strOk z)) = true := by decide +kernel
  intro z hz
  have := List.all_eq_true.mp h z hz
  rw [Bool.and_eq_true] at this
  exact ⟨Nat.le_of_ble_eq_true this.1, this.2⟩
theorem inn_str (z : Str) (l : List Str) : (D.str z).inn (l.map D.str) = decide (z ∈ l) := by
  induction l with
  | nil => rfl
  | cons y l ih =>
    show (y == z || (D.str z).inn (l.map D.str)) = _
    rw [ih]
    by_cases e : y = z
    · subst e; simp
    · rw [show (y == z) = false from beq_eq_false_iff_ne.mpr e, Bool.false_or]
      exact decide_eq_decide.mpr (by simp [List.mem_cons, Ne.symm e])
theorem flat_strs (l : List Str) : (l.map D.str).all D.flat = true := by
  rw [List.all_map]; exact List.all_eq_true.mpr fun _ _ => rfl
/-- a name -/
def nm (z : Str) : Bool := decide (1 ≤ z.length) && (decide (z.length ≤ 8) && (z.cps.toList.all inL && !decide (z ∈ ownL)))
theorem tok_one {c : Nat} (h : c < 1114112) : TOk 1 ⟨#[c]⟩ := ⟨Nat.le_refl _, by show (#[c] : Array Nat).all (· < 0x110000) = true; simp [h]⟩
theorem join_signs : ∀ cs : List Nat, TL.joinL [] (cs.map fun c => [c]) = cs
  | [] => rfl
  | [_] => rfl
  | a :: b :: r => by
    show [a] ++ ([] ++ TL.joinL [] ((b :: r).map fun c => [c])) = _
    rw [join_signs (b :: r)]; rfl
theorem join_ones (cs : List Nat) : Txt.join ("" : Str) (cs.map fun c => (⟨#[c]⟩ : Str)) = ⟨cs.toArray⟩ := by
  have h := SX.join_S [] (cs.map fun c => [c])
  rw [join_signs, List.map_map] at h
  exact h
theorem tok_list {n : Nat} {cs : List Nat} (h : ∀ c ∈ cs, c < 1114112) (l : cs.length ≤ n) : TOk n ⟨cs.toArray⟩ := by
  refine ⟨by show cs.toArray.size ≤ n; rw [List.size_toArray]; exact l, ?_⟩
  show cs.toArray.all (· < 0x110000) = true
  rw [List.all_toArray, List.all_eq_true]
  intro c hc
  exact decide_eq_true (h c hc)
/-- a stream was drawn from, nothing that stood was lost -/
def TkW (s : Addr) (μ μ' : Mu) : Prop := Strm μ' s ∧ ∀ b m, b ≠ s → μ b = some m → μ' b = some m
theorem TkW.refl {s : Addr} {μ : Mu} (h : Strm μ s) : TkW s μ μ := ⟨h, fun _ _ _ e => e⟩
theorem TkW.tk {s : Addr} {μ μ1 μ2 : Mu} (h : TkW s μ μ1) (g : Tk s μ1 μ2) : TkW s μ μ2 := ⟨g.1, fun b m hb e => by rw [g.2 b hb]; exact h.2 b m hb e⟩
theorem TkW.all {s : Addr} {μ μ1 μ2 : Mu} (h : TkW s μ μ1) (g : TkW s μ1 μ2) : TkW s μ μ2 := ⟨g.1, fun b m hb e => g.2 b m hb (h.2 b m hb e)⟩
theorem TkW.up {s p : Addr} {μ μ1 : Mu} {m : MO} (h : TkW s μ μ1) (hp : μ1 p = none) : TkW s μ (mup μ1 p m) := ⟨h.1.new hp, fun b n hb e => by
  have e1 := h.2 b n hb e
  rw [mup_ne (fun z => by rw [z, hp] at e1; cases e1)]; exact e1⟩
theorem TkW.set {s p : Addr} {μ μ1 : Mu} {m : MO} (h : TkW s μ μ1) (hp : μ p = none) (hs : p ≠ s) : TkW s μ (mup μ1 p m) := ⟨by
  obtain ⟨a, b, c, e⟩ := h.1
  exact ⟨a, b, c, by rw [mup_ne hs.symm]; exact e⟩, fun b n hb e => by
  rw [mup_ne (fun z => by rw [z, hp] at e; cases e)]; exact h.2 b n hb e⟩
theorem TkW.fix {s : Addr} {μ μ' : Mu} (h : TkW s μ μ') : ∃ μ2, Tk s μ μ2 ∧ Sub μ2 μ' := by
  obtain ⟨a, b, c, e⟩ := h.1
  refine ⟨fun b => if b = s then μ' s else μ b, ⟨⟨a, b, c, by show (if s = s then μ' s else μ s) = _; rw [if_pos rfl]; exact e⟩, fun x hx => if_neg hx⟩, fun x m hx => ?_⟩
  by_cases hs : x = s
  · subst hs; exact (if_pos rfl : (if x = x then μ' x else μ x) = μ' x) ▸ hx
  · exact h.2 x m hs ((if_neg hs : (if x = s then μ' s else μ x) = μ x) ▸ hx)
theorem tok_all {n : Nat} {z : Str} (h : TOk n z) : ∀ c ∈ z.cps.toList, c < 1114112 := fun c hc => by
  have h2 : z.cps.toList.all (· < 0x110000) = true := by rw [Array.all_toList]; exact h.2
  exact of_decide_eq_true (List.all_eq_true.mp h2 c hc)
theorem lt_a (c : Nat) : decide ((⟨#[c]⟩ : Str).cps.toList < ("a" : Str).cps.toList) = decide (c < 97) := by
  rw [show ("a" : Str).cps.toList = [97] by decide +kernel]
  refine decide_eq_decide.mpr ?_
  show [c] < [97] ↔ _
  simp [List.cons_lt_cons_iff]
theorem gt_z (c : Nat) : decide (("z" : Str).cps.toList < (⟨#[c]⟩ : Str).cps.toList) = decide (122 < c) := by
  rw [show ("z" : Str).cps.toList = [122] by decide +kernel]
  refine decide_eq_decide.mpr ?_
  show [122] < [c] ↔ _
  simp [List.cons_lt_cons_iff]

/-- a place or a mark: whether told by a field, its number -/
abbrev Sl := Bool × Int
abbrev slD (s : Sl) : D := .tup [.str (if s.1 then Str.ofString "by" else Str.ofString "is"), .int s.2]
abbrev ops9 : List Str := [Str.ofString "+", Str.ofString "-", Str.ofString "&", Str.ofString "|", Str.ofString "^", Str.ofString "<<", Str.ofString ">>", Str.ofString "<", Str.ofString "="]
abbrev Op := {x : Str // x ∈ ops9}
inductive Ex where
  | num (n : Int) | fld (n : Int) | plc (s : Sl) | mrk (s : Sl) | cel (e : Ex) | op (o : Op) (a b : Ex)
def exD : Ex → D
  | .num n => .tup [.str "number", .int n]
  | .fld n => .tup [.str "field", .int n]
  | .plc s => .tup [.str "place", slD s]
  | .mrk s => .tup [.str "mark", slD s]
  | .cel e => .tup [.str "cell", exD e]
  | .op o a b => .tup [.str o.1, exD a, exD b]
theorem exD_num {n : Int} : exD (.num n) = .tup [.str "number", .int n] := rfl
theorem exD_fld {n : Int} : exD (.fld n) = .tup [.str "field", .int n] := rfl
theorem exD_plc {s : Sl} : exD (.plc s) = .tup [.str "place", slD s] := rfl
theorem exD_mrk {s : Sl} : exD (.mrk s) = .tup [.str "mark", slD s] := rfl
theorem exD_cel {e : Ex} : exD (.cel e) = .tup [.str "cell", exD e] := rfl
theorem exD_op {o : Op} {a b : Ex} : exD (.op o a b) = .tup [.str o.1, exD a, exD b] := rfl
def dep : Ex → Nat
  | .cel e => dep e + 1
  | .op _ a b => max (dep a) (dep b) + 1
  | _ => 0
def nds : Ex → Nat
  | .cel e => nds e + 1
  | .op _ a b => nds a + nds b + 1
  | _ => 1
theorem nds_dep : ∀ e : Ex, nds e + 1 ≤ 2 ^ (dep e + 1)
  | .num _ => Nat.le_refl _
  | .fld _ => Nat.le_refl _
  | .plc _ => Nat.le_refl _
  | .mrk _ => Nat.le_refl _
  | .cel e => by
    have h := nds_dep e
    show nds e + 1 + 1 ≤ 2 ^ (dep e + 1 + 1)
    rw [Nat.pow_succ]; omega
  | .op _ a b => by
    have h1 := nds_dep a
    have h2 := nds_dep b
    have h3 : 2 ^ (dep a + 1) ≤ 2 ^ (max (dep a) (dep b) + 1) := Nat.pow_le_pow_right (by decide) (by omega)
    have h4 : 2 ^ (dep b + 1) ≤ 2 ^ (max (dep a) (dep b) + 1) := Nat.pow_le_pow_right (by decide) (by omega)
    show nds a + nds b + 1 + 1 ≤ 2 ^ (max (dep a) (dep b) + 1 + 1)
    rw [Nat.pow_succ (m := max (dep a) (dep b) + 1)]; omega
theorem nds15 {e : Ex} (h : dep e ≤ 3) : nds e ≤ 15 := by
  have h1 := nds_dep e
  have h2 : 2 ^ (dep e + 1) ≤ 2 ^ 4 := Nat.pow_le_pow_right (by decide) (by omega)
  omega
/-- what a part is, and the parts behind it -/
def prt : Ex → List D → D × List D
  | .num n, ps => (exD (.num n), ps)
  | .fld n, ps => (exD (.fld n), ps)
  | .plc s, ps => (.int (ps.length : Nat), ps ++ [.tup [.str "get", slD s]])
  | .mrk s, ps => (.int (ps.length : Nat), ps ++ [.tup [.str "ask", slD s]])
  | .cel e, ps => (.int ((prt e ps).2.length : Nat), (prt e ps).2 ++ [.tup [.str "cell", (prt e ps).1]])
  | .op o a b, ps => (.int ((prt b (prt a ps).2).2.length : Nat), (prt b (prt a ps).2).2 ++ [.tup [.str o.1, (prt a ps).1, (prt b (prt a ps).2).1]])
theorem prt_len : ∀ (e : Ex) (ps : List D), (prt e ps).2.length ≤ ps.length + nds e
  | .num _, ps => Nat.le_succ _
  | .fld _, ps => Nat.le_succ _
  | .plc _, ps => by show (ps ++ [_]).length ≤ _; rw [List.length_append]; exact Nat.le_refl _
  | .mrk _, ps => by show (ps ++ [_]).length ≤ _; rw [List.length_append]; exact Nat.le_refl _
  | .cel e, ps => by
    have h := prt_len e ps
    show ((prt e ps).2 ++ [_]).length ≤ ps.length + (nds e + 1)
    rw [List.length_append, List.length_singleton]; omega
  | .op o a b, ps => by
    have h := prt_len a ps
    have h2 := prt_len b (prt a ps).2
    show ((prt b (prt a ps).2).2 ++ [_]).length ≤ ps.length + (nds a + nds b + 1)
    rw [List.length_append, List.length_singleton]; omega
theorem op_no : ∀ o : Op, ¬ o.1 = Str.ofString "number" ∧ ¬ o.1 = Str.ofString "field" ∧ ¬ o.1 = Str.ofString "place" ∧ ¬ o.1 = Str.ofString "mark" ∧ ¬ o.1 = Str.ofString "cell" ∧ ¬ o.1 = Str.ofString "get" ∧ ¬ o.1 = Str.ofString "ask" := fun o => by
  have h : ops9.all (fun x => !decide (x = Str.ofString "number") && (!decide (x = Str.ofString "field") && (!decide (x = Str.ofString "place") && (!decide (x = Str.ofString "mark") && (!decide (x = Str.ofString "cell") && (!decide (x = Str.ofString "get") && !decide (x = Str.ofString "ask"))))))) = true := by decide +kernel
  have := List.all_eq_true.mp h o.1 o.2
  simp only [Bool.and_eq_true, Bool.not_eq_true', decide_eq_false_iff_not] at this
  exact this
theorem mup_self {μ : Mu} {p : Addr} {m : MO} (h : μ p = some m) : mup μ p m = μ := by
  funext b
  unfold mup
  by_cases e : b = p
  · rw [if_pos e, e, h]
  · rw [if_neg e]
theorem len_snoc {ps : List D} {x : D} : ((ps ++ [x]).length : Int) - 1 = (ps.length : Nat) := by
  rw [List.length_append, List.length_singleton]; omega
/-- sets -/
inductive St where
  | cel (a b : Ex) | put (m : Bool) (s : Sl) (e : Ex)
def stD : St → D
  | .cel a b => .tup [.str "cell", exD a, exD b]
  | .put m s e => .tup [.str (if m then Str.ofString "mark" else Str.ofString "place"), slD s, exD e]
def stDep : St → Nat
  | .cel a b => max (dep a) (dep b)
  | .put _ _ e => dep e
def stp (X : List D × List D) : St → List D × List D
  | .cel a b => ((prt b (prt a X.1).2).2, X.2 ++ [.tup [(prt a X.1).1, (prt b (prt a X.1).2).1]])
  | .put _ _ e => ((prt e X.1).2, X.2 ++ [.tup [(prt e X.1).1]])
abbrev rts (ss : List St) : List D × List D := ss.foldl stp ([], [])
theorem stD_cel {a b : Ex} : stD (.cel a b) = .tup [.str "cell", exD a, exD b] := rfl
theorem stD_put {m : Bool} {s : Sl} {e : Ex} : stD (.put m s e) = .tup [.str (if m then Str.ofString "mark" else Str.ofString "place"), slD s, exD e] := rfl
/-- on what a set rests -/
def restL : St → List D
  | .cel a b => [exD a, exD b]
  | .put _ _ e => [exD e]
theorem rts_snoc (ss : List St) (s : St) : rts (ss ++ [s]) = stp (rts ss) s := by
  show (ss ++ [s]).foldl stp ([], []) = _
  rw [List.foldl_append]; rfl
theorem stp_len (X : List D × List D) (s : St) (h : stDep s ≤ 3) : (stp X s).1.length ≤ X.1.length + 30 ∧ (stp X s).2.length = X.2.length + 1 := by
  cases s with
  | cel a b =>
    have h' : max (dep a) (dep b) ≤ 3 := h
    have h1 := nds15 (e := a) (by omega)
    have h2 := nds15 (e := b) (by omega)
    have h3 := prt_len a X.1
    have h4 := prt_len b (prt a X.1).2
    refine ⟨?_, ?_⟩
    · show (prt b (prt a X.1).2).2.length ≤ _; omega
    · show (X.2 ++ [_]).length = _; rw [List.length_append]; rfl
  | put m s e =>
    have h1 := nds15 (e := e) h
    have h3 := prt_len e X.1
    refine ⟨?_, ?_⟩
    · show (prt e X.1).2.length ≤ _; omega
    · show (X.2 ++ [_]).length = _; rw [List.length_append]; rfl
theorem rts_len (ss : List St) : ∀ X : List D × List D, (∀ s ∈ ss, stDep s ≤ 3) → (ss.foldl stp X).1.length ≤ X.1.length + 30 * ss.length ∧ (ss.foldl stp X).2.length = X.2.length + ss.length := by
  induction ss with
  | nil => intro X _; exact ⟨by simp, rfl⟩
  | cons s ss ih =>
    intro X h
    have h1 := stp_len X s (h s List.mem_cons_self)
    have h2 := ih (stp X s) fun x hx => h x (List.mem_cons_of_mem _ hx)
    rw [List.foldl_cons, List.length_cons]
    omega
/-- shapes -/
theorem ok_ops : ∀ o : Op, PyData.strOk o.1 = true := fun o => List.all_eq_true.mp (show ops9.all (fun x => PyData.strOk x) = true by decide +kernel) o.1 o.2
theorem shp_sl {n : Nat} {s : Sl} (h : 1 ≤ n) : D.shp n (slD s) = true := by
  obtain ⟨k, rfl⟩ : ∃ k, n = k + 1 := ⟨n - 1, by omega⟩
  rw [shp_tup, shpA_cons, shpA_cons, shp_str, shp_int, shpA_nil]
  cases s.1 <;> decide +kernel
theorem shp_ex : ∀ (e : Ex) (n : Nat), dep e + 2 ≤ n → D.shp n (exD e) = true
  | .num k, n, h => by
    obtain ⟨k, rfl⟩ : ∃ k, n = k + 1 := ⟨n - 1, by omega⟩
    rw [exD_num, shp_tup, shpA_cons, shpA_cons, shp_str, shp_int, shpA_nil]; decide +kernel
  | .fld k, n, h => by
    obtain ⟨k, rfl⟩ : ∃ k, n = k + 1 := ⟨n - 1, by omega⟩
    rw [exD_fld, shp_tup, shpA_cons, shpA_cons, shp_str, shp_int, shpA_nil]; decide +kernel
  | .plc s, n, h => by
    have h' : 0 + 2 ≤ n := h
    obtain ⟨k, rfl⟩ : ∃ k, n = k + 1 := ⟨n - 1, by omega⟩
    rw [exD_plc, shp_tup, shpA_cons, shpA_cons, shp_str, shp_sl (by omega), shpA_nil]; decide +kernel
  | .mrk s, n, h => by
    have h' : 0 + 2 ≤ n := h
    obtain ⟨k, rfl⟩ : ∃ k, n = k + 1 := ⟨n - 1, by omega⟩
    rw [exD_mrk, shp_tup, shpA_cons, shpA_cons, shp_str, shp_sl (by omega), shpA_nil]; decide +kernel
  | .cel e, n, h => by
    have h' : dep e + 1 + 2 ≤ n := h
    obtain ⟨k, rfl⟩ : ∃ k, n = k + 1 := ⟨n - 1, by omega⟩
    rw [exD_cel, shp_tup, shpA_cons, shpA_cons, shp_str, shp_ex e k (by omega), shpA_nil]; decide +kernel
  | .op o a b, n, h => by
    have h' : max (dep a) (dep b) + 1 + 2 ≤ n := h
    obtain ⟨k, rfl⟩ : ∃ k, n = k + 1 := ⟨n - 1, by omega⟩
    rw [exD_op, shp_tup, shpA_cons, shpA_cons, shpA_cons, shp_str, shp_ex a k (by omega), shp_ex b k (by omega), shpA_nil, ok_ops o]; rfl
theorem shp_st (s : St) (h : stDep s ≤ 3) : D.shp 20 (stD s) = true := by
  cases s with
  | cel a b =>
    have h' : max (dep a) (dep b) ≤ 3 := h
    rw [stD_cel, shp_tup, shpA_cons, shpA_cons, shpA_cons, shp_str, shp_ex a _ (by omega), shp_ex b _ (by omega), shpA_nil]; decide +kernel
  | put m s e =>
    have h' : dep e ≤ 3 := h
    rw [stD_put, shp_tup, shpA_cons, shpA_cons, shpA_cons, shp_str, shp_ex e _ (by omega), shp_sl (by omega), shpA_nil]
    cases m <;> decide +kernel
/-- what stands in a row -/
def ItOk (t : D) : Prop := (∃ n, t = .int n) ∨ (∃ x, t = .str x) ∨ ∃ ds, t = .tup ds
def RowOk (d : D) : Prop := ∃ ts, d = .tup ts ∧ (∀ t ∈ ts, ItOk t) ∧ D.shp 10 d = true
def RefOk (t : D) : Prop := ItOk t ∧ D.shp 9 t = true
theorem row1 {x : Str} {r : D} (hx : PyData.strOk x = true) (h : RefOk r) : RowOk (.tup [.str x, r]) := by
  refine ⟨_, rfl, fun t ht => ?_, ?_⟩
  · simp only [List.mem_cons, List.not_mem_nil, or_false] at ht
    rcases ht with rfl | rfl
    · exact .inr (.inl ⟨_, rfl⟩)
    · exact h.1
  · rw [shp_tup, shpA_cons, shpA_cons, shp_str, hx, h.2, shpA_nil]; rfl
theorem row2 {x : Str} {r r2 : D} (hx : PyData.strOk x = true) (h : RefOk r) (h2 : RefOk r2) : RowOk (.tup [.str x, r, r2]) := by
  refine ⟨_, rfl, fun t ht => ?_, ?_⟩
  · simp only [List.mem_cons, List.not_mem_nil, or_false] at ht
    rcases ht with rfl | rfl | rfl
    · exact .inr (.inl ⟨_, rfl⟩)
    · exact h.1
    · exact h2.1
  · rw [shp_tup, shpA_cons, shpA_cons, shpA_cons, shp_str, hx, h.2, h2.2, shpA_nil]; rfl
theorem ref_int (n : Int) : RefOk (.int n) := ⟨.inl ⟨n, rfl⟩, shp_int⟩
theorem ref_sl (s : Sl) : RefOk (slD s) := ⟨.inr (.inr ⟨_, rfl⟩), shp_sl (by decide)⟩
theorem snoc_ok {ps : List D} {d : D} (h : ∀ x ∈ ps, RowOk x) (g : RowOk d) : ∀ x ∈ ps ++ [d], RowOk x := fun x hx => by
  rcases List.mem_append.mp hx with hx | hx
  · exact h x hx
  · rw [List.mem_singleton.mp hx]; exact g
theorem prt_ok : ∀ (e : Ex) (ps : List D), (∀ d ∈ ps, RowOk d) → RefOk (prt e ps).1 ∧ ∀ d ∈ (prt e ps).2, RowOk d
  | .num n, ps, h => ⟨⟨.inr (.inr ⟨_, rfl⟩), shp_ex (.num n) 9 (show 0 + 2 ≤ 9 by decide)⟩, h⟩
  | .fld n, ps, h => ⟨⟨.inr (.inr ⟨_, rfl⟩), shp_ex (.fld n) 9 (show 0 + 2 ≤ 9 by decide)⟩, h⟩
  | .plc s, ps, h => ⟨ref_int _, snoc_ok h (row1 (by decide +kernel) (ref_sl s))⟩
  | .mrk s, ps, h => ⟨ref_int _, snoc_ok h (row1 (by decide +kernel) (ref_sl s))⟩
  | .cel e, ps, h => ⟨ref_int _, snoc_ok (prt_ok e ps h).2 (row1 (by decide +kernel) (prt_ok e ps h).1)⟩
  | .op o a b, ps, h => ⟨ref_int _, snoc_ok (prt_ok b _ (prt_ok a ps h).2).2 (row2 (ok_ops o) (prt_ok a ps h).1 (prt_ok b _ (prt_ok a ps h).2).1)⟩
theorem root1 {r : D} (h : RefOk r) : RowOk (.tup [r]) := by
  refine ⟨_, rfl, fun t ht => ?_, ?_⟩
  · rw [List.mem_singleton.mp ht]; exact h.1
  · rw [shp_tup, shpA_cons, h.2, shpA_nil]; rfl
theorem root2 {r r2 : D} (h : RefOk r) (h2 : RefOk r2) : RowOk (.tup [r, r2]) := by
  refine ⟨_, rfl, fun t ht => ?_, ?_⟩
  · simp only [List.mem_cons, List.not_mem_nil, or_false] at ht
    rcases ht with rfl | rfl
    · exact h.1
    · exact h2.1
  · rw [shp_tup, shpA_cons, shpA_cons, h.2, h2.2, shpA_nil]; rfl
theorem rts_ok (ss : List St) : ∀ X : List D × List D, (∀ d ∈ X.1, RowOk d) → (∀ d ∈ X.2, RowOk d) → (∀ d ∈ (ss.foldl stp X).1, RowOk d) ∧ ∀ d ∈ (ss.foldl stp X).2, RowOk d := by
  induction ss with
  | nil => intro X h g; exact ⟨h, g⟩
  | cons s ss ih =>
    intro X h g
    rw [List.foldl_cons]
    cases s with
    | cel a b =>
      have h1 := prt_ok a X.1 h
      have h2 := prt_ok b _ h1.2
      exact ih _ h2.2 (snoc_ok g (root2 h1.1 h2.1))
    | put m s e =>
      have h1 := prt_ok e X.1 h
      exact ih _ h1.2 (snoc_ok g (root1 h1.1))
theorem rows_shp {L : List D} (h : ∀ d ∈ L, RowOk d) : D.shp 64 (.lst L) = true := shpA_all (n := 63) fun d hd => by
  obtain ⟨_, _, _, hs⟩ := h d hd
  exact shp_le hs (by decide)

/-! ### Parts.__init__ -/
def spParts_init (cc : Nat → Addr) : Sp2 := fun ds μ Q _ => ∃ (q : Addr), ds = [.adr q] ∧ μ q = some (.ins (cc 0) []) ∧ ∀ p, μ p = none → Q .non (mup (mup μ p (.lst [])) q (.ins (cc 0) [(Str.ofString "rows", .adr p)]))
theorem DParts_init (T : Tt K mg cc) : Dm P w K mg base (cc 0) "__init__" 1 ["self"] (spParts_init cc) := by
  refine T.xParts_init.ok scParts_init (by rintro ds μ Q E ⟨q, rfl, hq, h⟩; rfl) (fun f cdv A outer s H E hr => ⟨_, _, (b_one (s_putF T.k_Parts.cl T.n_Parts_rows (e_pv 0 (pv 0)) (e_lst a_nil))), ?_⟩)
  rintro ds μ Q E ⟨q, rfl, hq, h⟩
  walk_at "y"
  intro p hp
  walk_at "y"
  exact RtC.same (h p hp)
/-! ### Parts.part_in -/
def spParts_part_in (cc : Nat → Addr) (n : Nat) : Sp2 := fun ds μ Q _ => ∃ (e : Ex) (q p : Addr) (ps : List D), ds = [.adr q, exD e] ∧ dep e ≤ n ∧ μ q = some (.ins (cc 0) [(Str.ofString "rows", .adr p)]) ∧ μ p = some (.lst ps) ∧ ps.length + nds e ≤ 1000 ∧ Q (prt e ps).1 (mup μ p (.lst (prt e ps).2))
def spParts_part_inp (cc : Nat → Addr) : Nat → Sp2
  | 0 => fun _ _ _ _ => False
  | n + 1 => spParts_part_in cc n
theorem EParts_part_in (T : Tt K mg cc) (n j : Nat) (hj : j ≤ n + 1) (DParts_part_in : Dm P w K mg base (cc 0) "part_in" j ["self", "e"] (spParts_part_inp cc n)) : Dm P w K mg base (cc 0) "part_in" (n + 2) ["self", "e"] (spParts_part_in cc n) := by
  refine T.xParts_part_in.ok (k := n + 1) scParts_part_in (by rintro ds μ Q E ⟨e, q, p, ps, rfl, hd, hq, hp, hl, h⟩; rfl) (fun f cdv A outer s H E hr => ⟨_, _, (b_cons (s_if (t_w (k_or (t_eq hr (e_ix (e_pv 1 (pv 1)) e_int (fun _ _ => rfl)) e_str) (k_or1 (t_eq hr (e_ix (e_pv 1 (pv 1)) e_int (fun _ _ => rfl)) e_str))))
      (b_one (s_ret (e_pv 1 (pv 1))))
      b_nil)
      (b_cons (s_if (t_eq hr (e_ix (e_pv 1 (pv 1)) e_int (fun _ _ => rfl)) e_str)
      (b_one (s_expr (e_app (e_fld T.k_Parts.cl T.n_Parts_rows (e_pv 0 (pv 0))) (a_cons (e_tup (a_cons e_str (a_cons (e_ix (e_pv 1 (pv 1)) e_int (fun _ _ => rfl)) a_nil))) a_nil))))
      (b_one (s_if (t_eq hr (e_ix (e_pv 1 (pv 1)) e_int (fun _ _ => rfl)) e_str)
      (b_one (s_expr (e_app (e_fld T.k_Parts.cl T.n_Parts_rows (e_pv 0 (pv 0))) (a_cons (e_tup (a_cons e_str (a_cons (e_ix (e_pv 1 (pv 1)) e_int (fun _ _ => rfl)) a_nil))) a_nil))))
      (b_cons (s_setLcF (i := 2) (own := [("one", 3)]) rfl scParts_part_in.nd rfl rfl (sw_true rfl rfl rfl (by decide +kernel)) (j_t (e_fzL (e_slice (e_pv 1 (pv 1)) (o_some e_int) o_none))) (blkOk_by (N := nParts_part_in) (sc := defScope sParts_part_in) (by decide +kernel)) (fun _ _ _ _ _ => ⟨_, (g_nm (pg_name (i := 3) scParts_part_in.nd rfl (by first | exact Or.inl rfl | exact Or.inr rfl)))⟩) (fun _ _ _ _ _ => ⟨_, ts_none⟩) (fun _ _ _ _ _ => ⟨_, (e_meth DParts_part_in hr T.k_Parts.cl (e_pv 0 (pv 0)) (a_cons (e_pv 3 (pv 3)) a_nil) (hjk := hj))⟩))
      (b_one (s_expr (e_app (e_fld T.k_Parts.cl T.n_Parts_rows (e_pv 0 (pv 0))) (a_cons (e_tupOf (by rfl) T.b_tuple (a_cons (e_fzL (e_add (e_fz (e_lst (a_cons (e_ix (e_pv 1 (pv 1)) e_int (fun _ _ => rfl)) a_nil))) (e_pv 2 (pv 2)))) a_nil)) a_nil))))))))
      (b_one (s_ret (e_sub (e_len (by rfl) T.b_len (a_cons (e_fld T.k_Parts.cl T.n_Parts_rows (e_pv 0 (pv 0))) a_nil)) e_int))))), ?_⟩)
  rintro ds μ Q E ⟨e, q, p, ps, rfl, hd, hq, hp, hl, h⟩
  have hpq : p ≠ q := fun z => by rw [z, hq] at hp; cases hp
  cases e with
  | num k =>
    rw [show (prt (.num k) ps).2 = ps from rfl, mup_self hp] at h
    rw [exD_num]
    walk_at "y"
    exact RtC.same h
  | fld k =>
    rw [show (prt (.fld k) ps).2 = ps from rfl, mup_self hp] at h
    rw [exD_fld]
    walk_at "y"
    exact RtC.same h
  | plc s =>
    have hl2 : ps.length + 1 ≤ 1000 := hl
    rw [exD_plc]
    walk_at "y"
    rw [len_snoc]
    exact RtC.same h
  | mrk s =>
    have hl2 : ps.length + 1 ≤ 1000 := hl
    rw [exD_mrk]
    walk_at "y"
    rw [len_snoc]
    exact RtC.same h
  | cel e =>
    have hl2 : ps.length + (nds e + 1) ≤ 1000 := hl
    rw [exD_cel]
    have pl := prt_len e ps
    walk_at "yc"
    have hd2 : dep e + 1 ≤ n := hd
    cases n with
    | zero => omega
    | succ n =>
      refine ⟨e, q, p, ps, rfl, by omega, hq, hp, by omega, ?_⟩
      walk_at "yc"
      rw [len_snoc, mup_mup]
      exact RtC.same h
  | op o a b =>
    have hl2 : ps.length + (nds a + nds b + 1) ≤ 1000 := hl
    obtain ⟨o1, o2, o3, o4, o5, o6, o7⟩ := op_no o
    have pl := prt_len a ps
    have pl2 := prt_len b (prt a ps).2
    rw [exD_op]
    walk_at "yc"
    have hd2 : max (dep a) (dep b) + 1 ≤ n := hd
    cases n with
    | zero => omega
    | succ n =>
      refine ⟨a, q, p, ps, rfl, by omega, hq, hp, by omega, ?_⟩
      walk_at "yc"
      refine ⟨b, q, p, (prt a ps).2, rfl, by omega, by walk_at "mu", by walk_at "mu", by omega, ?_⟩
      walk_at "yc"
      rw [len_snoc, mup_mup, mup_mup]
      exact RtC.same h
theorem DParts_part_in (T : Tt K mg cc) : ∀ n, Dm P w K mg base (cc 0) "part_in" (n + 2) ["self", "e"] (spParts_part_in cc n)
  | 0 => EParts_part_in T 0 1 (by omega) (T.xParts_part_in.never scParts_part_in)
  | n + 1 => EParts_part_in T (n + 1) (n + 2) (by omega) (DParts_part_in T n)
/-! ### rests_of -/
def sprests_of : Sp2 := fun ds μ Q _ => ∃ s : St, ds = [stD s] ∧ Q (.lst (restL s)) μ
theorem Drests_of (T : Tt K mg cc) : Df P w K mg base "rests_of" 1 ["one"] (sprests_of) := by
  refine T.xrests_of.ok scrests_of (by rintro ds μ Q E ⟨s, rfl, h⟩; rfl) (fun f cdv A outer s H E hr => ⟨_, _, (b_cons (s_if (t_eq hr (e_ix (e_pv 0 (pv 0)) e_int (fun _ _ => rfl)) e_str)
      (b_one (s_ret (e_fz (e_lst (a_cons (e_ix (e_pv 0 (pv 0)) e_int (fun _ _ => rfl)) (a_cons (e_ix (e_pv 0 (pv 0)) e_int (fun _ _ => rfl)) a_nil))))))
      b_nil)
      (b_one (s_ret (e_fz (e_lst (a_cons (e_ix (e_pv 0 (pv 0)) e_int (fun _ _ => rfl)) a_nil)))))), ?_⟩)
  rintro ds μ Q E ⟨s, rfl, h⟩
  cases s with
  | cel a b =>
    rw [stD_cel]
    walk_at "y"
    exact RtC.same h
  | put m s e =>
    have hm : ¬ (if m then Str.ofString "mark" else Str.ofString "place") = Str.ofString "cell" := by cases m <;> decide +kernel
    rw [stD_put]
    walk_at "y"
    exact RtC.same h
/-! ### parts_and_roots -/
def spparts_and_roots (cc : Nat → Addr) : Sp2 := fun ds μ Q _ => ∃ ss : List St, ds = [.tup (ss.map stD)] ∧ ss.length ≤ 20 ∧ (∀ s ∈ ss, stDep s ≤ 3) ∧ ∀ p1 p2 μ', μ p1 = none → μ p2 = none → p1 ≠ p2 → Sub μ μ' → μ' p1 = some (.lst (rts ss).1) → μ' p2 = some (.lst (rts ss).2) → Q (.tup [.adr p1, .adr p2]) μ'
theorem Dparts_and_roots (T : Tt K mg cc) : Df P w K mg base "parts_and_roots" 6 ["sets"] (spparts_and_roots cc) := by
  have DParts_init := DParts_init (P := P) (w := w) (base := base) T
  have DParts_part_in := DParts_part_in (P := P) (w := w) (base := base) T 3
  have Drests_of := Drests_of (P := P) (w := w) (base := base) T
  refine T.xparts_and_roots.ok scparts_and_roots (by rintro ds μ Q E ⟨ss, rfl, hn, hd, h⟩; rfl) (fun f cdv A outer s H E hr => ⟨_, _, (b_cons (s_set (i := 1) (e_make0 T.k_Parts DParts_init hr (by rfl)) scparts_and_roots.nd rfl (by first | exact Or.inl rfl | exact Or.inr rfl))
      (b_cons (s_set (i := 2) (e_lst a_nil) scparts_and_roots.nd rfl (by first | exact Or.inl rfl | exact Or.inr rfl))
      (b_cons (s_for PassesOwn.never rfl (j_t (e_pv 0 (pv 0))) (g_nm (pg_name (i := 3) scparts_and_roots.nd rfl (by first | exact Or.inl rfl | exact Or.inr rfl)))
      (b_one (s_expr (e_app (e_pv 2 (pv 2)) (a_cons (e_tupOf (by rfl) T.b_tuple (a_cons (e_fz (e_lc (own := [("e", 4)]) rfl scparts_and_roots.nd (j_l (e_call Drests_of hr (by rfl) (a_cons (e_pv 3 (pv 3)) a_nil))) (blkOk_by (N := nparts_and_roots) (sc := defScope sparts_and_roots) (by decide +kernel)) (fun _ _ _ _ _ => ⟨_, (g_nm (pg_name (i := 4) scparts_and_roots.nd rfl (by first | exact Or.inl rfl | exact Or.inr rfl)))⟩) (fun _ _ _ _ _ => ⟨_, ts_none⟩) (fun _ _ _ _ _ => ⟨_, (e_meth DParts_part_in hr T.k_Parts.cl (e_pv 1 (pv 1)) (a_cons (e_pv 4 (pv 4)) a_nil))⟩))) a_nil)) a_nil)))))
      (b_one (s_ret (e_tup (a_cons (e_fld T.k_Parts.cl T.n_Parts_rows (e_pv 1 (pv 1))) (a_cons (e_pv 2 (pv 2)) a_nil)))))))), ?_⟩)
  rintro ds μ Q E ⟨ss, rfl, hn, hd, h⟩
  walk_at "y"
  intro q hq
  refine ⟨q, rfl, mup_same, fun p hp => ⟨rfl, ?_⟩⟩
  have npq : p ≠ q := ne_of_mup hp
  have hp0 : μ p = none := none_sub (Sub.new hq) hp
  walk_at "y"
  intro p2 hp2
  have np2q : p2 ≠ q := fun z => by rw [z, mup_same] at hp2; cases hp2
  have np2p : p2 ≠ p := fun z => by rw [z, mup_ne npq, mup_same] at hp2; cases hp2
  have hp20 : μ p2 = none := by rw [mup_ne np2q, mup_ne np2p, mup_ne np2q] at hp2; exact hp2
  walk_at "y"
  refine Y.Cl.at (ρ' := start2 nparts_and_roots [.tup (ss.map stD), .adr q, .adr p2]) (by walk_at "less") Sub.refl (w_turns (fun xs ρ μ' => ∃ dn rs : List St, ss = dn ++ rs ∧ xs = rs.map stD ∧ ρ = start2 nparts_and_roots [.tup (ss.map stD), .adr q, .adr p2] ∧ μ' q = some (.ins (cc 0) [(Str.ofString "rows", .adr p)]) ∧ μ' p = some (.lst (rts dn).1) ∧ μ' p2 = some (.lst (rts dn).2) ∧ Sub μ μ') (fun _ _ _ _ => trivial) ?_ ?_ _ _ _ ⟨[], ss, rfl, rfl, rfl, by walk_at "mu", by walk_at "mu", by walk_at "mu", by walk_at "sub"⟩)
  · rintro x xs _ μ1 ⟨dn, rs, hss, hx, rfl, e1, e2, e3, u⟩ N hN
    cases rs with
    | nil => cases hx
    | cons s rs =>
      injection hx with h3 h4
      subst h3
      have hs : stDep s ≤ 3 := hd s (by rw [hss]; exact List.mem_append_right _ List.mem_cons_self)
      have hl : (rts dn).1.length ≤ 0 + 30 * dn.length ∧ (rts dn).2.length = 0 + dn.length := rts_len dn ([], []) fun x hx => hd x (by rw [hss]; exact List.mem_append_left _ hx)
      have hl2 : dn.length + 1 ≤ 20 := by rw [hss, List.length_append, List.length_cons] at hn; omega
      have next : ∀ μ2, μ2 q = some (.ins (cc 0) [(Str.ofString "rows", .adr p)]) → μ2 p = some (.lst (stp (rts dn) s).1) → μ2 p2 = some (.lst (stp (rts dn) s).2) → Sub μ μ2 → N (start2 nparts_and_roots [.tup (ss.map stD), .adr q, .adr p2]) μ2 := fun μ2 a1 a2 a3 a4 =>
        hN _ _ ⟨dn ++ [s], rs, by rw [hss, List.append_assoc]; rfl, h4, rfl, a1, by rw [rts_snoc]; exact a2, by rw [rts_snoc]; exact a3, a4⟩
      walk_at "y"
      refine ⟨s, rfl, ?_⟩
      cases s with
      | cel a b =>
        have hs' : max (dep a) (dep b) ≤ 3 := hs
        have n1 := nds15 (e := a) (by omega)
        have n2 := nds15 (e := b) (by omega)
        have h3 := prt_len a (rts dn).1
        have h4 := prt_len b (prt a (rts dn).1).2
        rw [show restL (.cel a b) = [exD a, exD b] from rfl]
        walk_at "yc"
        refine ⟨a, q, p, _, rfl, by omega, by walk_at "mu", by walk_at "mu", by omega, ?_⟩
        walk_at "yc"
        refine ⟨b, q, p, _, rfl, by omega, by walk_at "mu", by walk_at "mu", by omega, ?_⟩
        walk_at "yc"
        exact Y.Cl.at (by walk_at "less") Sub.refl (next _ (by walk_at "mu") (by walk_at "mu") (by walk_at "mu") (by walk_at "sub"))
      | put m s e =>
        have n1 := nds15 (e := e) hs
        have h3 := prt_len e (rts dn).1
        rw [show restL (.put m s e) = [exD e] from rfl]
        walk_at "yc"
        refine ⟨e, q, p, _, rfl, hs, by walk_at "mu", by walk_at "mu", by omega, ?_⟩
        walk_at "yc"
        exact Y.Cl.at (by walk_at "less") Sub.refl (next _ (by walk_at "mu") (by walk_at "mu") (by walk_at "mu") (by walk_at "sub"))
  · rintro _ μ1 ⟨dn, rs, hss, hx, rfl, e1, e2, e3, u⟩
    obtain rfl : rs = [] := by cases rs with | nil => rfl | cons _ _ => cases hx
    rw [List.append_nil] at hss
    subst hss
    walk_at "y"
    exact RtC.same (h p p2 _ hp0 hp20 np2p.symm u e2 e3)
/-! ### parts_of -/
def spparts_of : Sp2 := fun ds μ Q _ => ∃ ss : List St, ds = [.tup (ss.map stD)] ∧ ss.length ≤ 20 ∧ (∀ s ∈ ss, stDep s ≤ 3) ∧ ∀ p μ', μ p = none → Sub μ μ' → μ' p = some (.lst (rts ss).1) → Q (.adr p) μ'
theorem Dparts_of (T : Tt K mg cc) : Df P w K mg base "parts_of" 7 ["sets"] (spparts_of) := by
  have Dparts_and_roots := Dparts_and_roots (P := P) (w := w) (base := base) T
  refine T.xparts_of.ok scparts_of (by rintro ds μ Q E ⟨ss, rfl, hn, hd, h⟩; rfl) (fun f cdv A outer s H E hr => ⟨_, _, (b_cons (s_asg (e_call Dparts_and_roots hr (by rfl) (a_cons (e_pv 0 (pv 0)) a_nil)) (g_un (n := 2) rfl (gs_cons (g_nm (pg_name (i := 1) scparts_of.nd rfl (by first | exact Or.inl rfl | exact Or.inr rfl))) (gs_cons (g_nm (pg_name (i := 2) scparts_of.nd rfl (by first | exact Or.inl rfl | exact Or.inr rfl))) gs_nil))))
      (b_one (s_ret (e_pv 1 (pv 1))))), ?_⟩)
  rintro ds μ Q E ⟨ss, rfl, hn, hd, h⟩
  walk_at "y"
  refine ⟨ss, rfl, hn, hd, fun p1 p2 μ' n1 n2 ne u e1 e2 => ?_⟩
  walk_at "y"
  exact RtC.same (h _ _ n1 u e1)
/-! ### roots_of -/
def sproots_of : Sp2 := fun ds μ Q _ => ∃ ss : List St, ds = [.tup (ss.map stD)] ∧ ss.length ≤ 20 ∧ (∀ s ∈ ss, stDep s ≤ 3) ∧ ∀ p μ', μ p = none → Sub μ μ' → μ' p = some (.lst (rts ss).2) → Q (.adr p) μ'
theorem Droots_of (T : Tt K mg cc) : Df P w K mg base "roots_of" 7 ["sets"] (sproots_of) := by
  have Dparts_and_roots := Dparts_and_roots (P := P) (w := w) (base := base) T
  refine T.xroots_of.ok scroots_of (by rintro ds μ Q E ⟨ss, rfl, hn, hd, h⟩; rfl) (fun f cdv A outer s H E hr => ⟨_, _, (b_cons (s_asg (e_call Dparts_and_roots hr (by rfl) (a_cons (e_pv 0 (pv 0)) a_nil)) (g_un (n := 2) rfl (gs_cons (g_nm (pg_name (i := 1) scroots_of.nd rfl (by first | exact Or.inl rfl | exact Or.inr rfl))) (gs_cons (g_nm (pg_name (i := 2) scroots_of.nd rfl (by first | exact Or.inl rfl | exact Or.inr rfl))) gs_nil))))
      (b_one (s_ret (e_pv 2 (pv 2))))), ?_⟩)
  rintro ds μ Q E ⟨ss, rfl, hn, hd, h⟩
  walk_at "y"
  refine ⟨ss, rfl, hn, hd, fun p1 p2 μ' n1 n2 ne u e1 e2 => ?_⟩
  walk_at "y"
  exact RtC.same (h _ _ n2 u e2)
/-! ### _law_e -/
def spLe (n : Nat) : Sp2 := fun ds μ Q _ => ∃ (s : Addr) (d : Int), ds = [.adr s, .int d] ∧ d ≤ n + 1 ∧ Strm μ s ∧ ∀ e μ', dep e ≤ n → Tk s μ μ' → Q (exD e) μ'
def spLep : Nat → Sp2
  | 0 => fun _ _ _ _ => False
  | n + 1 => spLe n
theorem ELe (T : Tt K mg cc) (n j : Nat) (hj : j ≤ n + 1) (DLe : Df P w K mg base "_law_e" j ["_law_stream_here", "_law_deep"] (spLep n)) : Df P w K mg base "_law_e" (n + 2) ["_law_stream_here", "_law_deep"] (spLe n) := by
  have DLtake := DLtake (P := P) (w := w) (base := base) T
  refine T.xLe.ok (k := n + 1) scLe (by rintro ds μ Q E ⟨s, d, rfl, hd, hS, h⟩; rfl) (fun f cdv A outer s H E hr => ⟨_, _, (b_cons (s_set (i := 2) (e_call DLtake hr (by rfl) (a_cons (e_pv 0 (pv 0)) (a_cons e_int a_nil)) (hjk := by omega)) scLe.nd rfl (by first | exact Or.inl rfl | exact Or.inr rfl))
      (b_cons (s_if (t_w (k_or (t_lt (e_pv 1 (pv 1)) e_int) (k_or1 (t_lt (e_pv 2 (pv 2)) e_int))))
      (b_cons (s_set (i := 3) (e_ix (e_fz (e_lst (a_cons (e_tup (a_cons e_str (a_cons (e_call DLtake hr (by rfl) (a_cons (e_pv 0 (pv 0)) (a_cons e_int a_nil)) (hjk := by omega)) a_nil))) (a_cons (e_tup (a_cons e_str (a_cons (e_call DLtake hr (by rfl) (a_cons (e_pv 0 (pv 0)) (a_cons e_int a_nil)) (hjk := by omega)) a_nil))) a_nil)))) (e_call DLtake hr (by rfl) (a_cons (e_pv 0 (pv 0)) (a_cons e_int a_nil)) (hjk := by omega)) (fun _ _ => rfl)) scLe.nd rfl (by first | exact Or.inl rfl | exact Or.inr rfl))
      (b_cons (s_set (i := 4) (e_tup (a_cons e_str (a_cons (e_call DLtake hr (by rfl) (a_cons (e_pv 0 (pv 0)) (a_cons (e_ix (e_fz (e_lst (a_cons e_int (a_cons (e_pow e_int e_int) a_nil)))) (e_call DLtake hr (by rfl) (a_cons (e_pv 0 (pv 0)) (a_cons e_int a_nil)) (hjk := by omega)) (fun _ _ => rfl)) a_nil)) (hjk := by omega)) a_nil))) scLe.nd rfl (by first | exact Or.inl rfl | exact Or.inr rfl))
      (b_cons (s_set (i := 5) (e_tup (a_cons e_str (a_cons (e_call DLtake hr (by rfl) (a_cons (e_pv 0 (pv 0)) (a_cons e_int a_nil)) (hjk := by omega)) a_nil))) scLe.nd rfl (by first | exact Or.inl rfl | exact Or.inr rfl))
      (b_one (s_ret (e_ix (e_fz (e_lst (a_cons (e_pv 4 (pv 4)) (a_cons (e_pv 5 (pv 5)) (a_cons (e_tup (a_cons e_str (a_cons (e_pv 3 (pv 3)) a_nil))) (a_cons (e_tup (a_cons e_str (a_cons (e_pv 3 (pv 3)) a_nil))) (a_cons (e_tup (a_cons e_str (a_cons (e_pv 3 (pv 3)) a_nil))) a_nil))))))) (e_call DLtake hr (by rfl) (a_cons (e_pv 0 (pv 0)) (a_cons e_int a_nil)) (hjk := by omega)) (fun _ _ => rfl)))))))
      b_nil)
      (b_cons (s_if (t_eq hr (e_pv 2 (pv 2)) e_int)
      (b_one (s_ret (e_tup (a_cons e_str (a_cons (e_call DLe hr (by rfl) (a_cons (e_pv 0 (pv 0)) (a_cons (e_sub (e_pv 1 (pv 1)) e_int) a_nil)) (hjk := hj)) a_nil)))))
      b_nil)
      (b_cons (s_set (i := 6) (e_ix (e_fz (e_lst (a_cons e_str (a_cons e_str (a_cons e_str (a_cons e_str (a_cons e_str (a_cons e_str (a_cons e_str (a_cons e_str (a_cons e_str a_nil))))))))))) (e_call DLtake hr (by rfl) (a_cons (e_pv 0 (pv 0)) (a_cons e_int a_nil)) (hjk := by omega)) (fun _ _ => rfl)) scLe.nd rfl (by first | exact Or.inl rfl | exact Or.inr rfl))
      (b_one (s_ret (e_tup (a_cons (e_pv 6 (pv 6)) (a_cons (e_call DLe hr (by rfl) (a_cons (e_pv 0 (pv 0)) (a_cons (e_sub (e_pv 1 (pv 1)) e_int) a_nil)) (hjk := hj)) (a_cons (e_call DLe hr (by rfl) (a_cons (e_pv 0 (pv 0)) (a_cons (e_sub (e_pv 1 (pv 1)) e_int) a_nil)) (hjk := hj)) a_nil)))))))))), ?_⟩)
  rintro ds μ Q E ⟨s, d, rfl, hd, hS, h⟩
  walk_at "y"
  refine ⟨s, _, rfl, hS, by omega, by omega, fun way μ1 w0 w1 t1 => ?_⟩
  walk_at "y"
  refine br_dec (fun h1 => ?_) (fun h1 => ?_)
  rotate_left
  walk_at "y"
  refine br_dec (fun h2 => ?_) (fun h2 => ?_)
  rotate_left
  · walk_at "y"
    cases n with
    | zero => exact absurd hd (by omega)
    | succ n =>
      refine br_dec (fun h3 => ?_) (fun h3 => ?_)
      · walk_at "y"
        refine ⟨s, d - 1, rfl, by omega, t1.st, fun e μ2 he t2 => ?_⟩
        walk_at "y"
        exact RtC.same (h (.cel e) _ (Nat.succ_le_succ he) (t1.trans t2))
      · walk_at "y"
        refine ⟨s, _, rfl, t1.st, by omega, by omega, fun k μ2 k0 k1 t2 => ?_⟩
        obtain ⟨x, ex, mx, _⟩ := atI_ex (xs := ops9.map D.str) k0 k1
        obtain ⟨o, ho, rfl⟩ := List.mem_map.mp mx
        refine w_ixL ex ?_
        walk_at "y"
        refine ⟨s, d - 1, rfl, by omega, t2.st, fun e1 μ3 he1 t3 => ?_⟩
        walk_at "y"
        refine ⟨s, d - 1, rfl, by omega, t3.st, fun e2 μ4 he2 t4 => ?_⟩
        walk_at "y"
        exact RtC.same (h (.op ⟨o, ho⟩ e1 e2) _ (by show max (dep e1) (dep e2) + 1 ≤ n + 1; omega) (t1.trans (t2.trans (t3.trans t4))))
  all_goals
    walk_at "y"
    refine ⟨s, _, rfl, t1.st, by omega, by omega, fun k2 μ2 k20 k21 t2 => ?_⟩
    walk_at "y"
    refine ⟨s, _, rfl, t2.st, by omega, by omega, fun k3 μ3 k30 k31 t3 => ?_⟩
    walk_at "y"
    refine ⟨s, _, rfl, t3.st, by omega, by omega, fun k4 μ4 k40 k41 t4 => ?_⟩
    obtain ⟨x4, e4, m4, _⟩ := atI_ex (xs := [D.tup [.str (Str.ofString "is"), .int k2], D.tup [.str (Str.ofString "by"), .int k3]]) k40 k41
    have h4 : ∃ sl : Sl, x4 = slD sl := by
      simp only [List.mem_cons, List.not_mem_nil, or_false] at m4
      rcases m4 with rfl | rfl
      · exact ⟨(false, k2), rfl⟩
      · exact ⟨(true, k3), rfl⟩
    obtain ⟨sl, rfl⟩ := h4
    refine w_ixL e4 ?_
    walk_at "y"
    refine ⟨s, _, rfl, t4.st, by omega, by omega, fun k5 μ5 k50 k51 t5 => ?_⟩
    obtain ⟨x5, e5, m5, _⟩ := atI_ex (xs := [D.int 4, D.int (2 ^ Int.toNat 24)]) k50 k51
    have h5 : ∃ m : Int, x5 = .int m ∧ 0 < m ∧ m < 2 ^ 200 := by
      simp only [List.mem_cons, List.not_mem_nil, or_false] at m5
      rcases m5 with rfl | rfl
      · exact ⟨_, rfl, by decide, by decide⟩
      · exact ⟨_, rfl, by decide, by decide⟩
    obtain ⟨m, rfl, m0, m1⟩ := h5
    refine w_ixL e5 ?_
    walk_at "y"
    refine ⟨s, _, rfl, t5.st, by omega, by omega, fun k6 μ6 k60 k61 t6 => ?_⟩
    walk_at "y"
    refine ⟨s, _, rfl, t6.st, by omega, by omega, fun k7 μ7 k70 k71 t7 => ?_⟩
    walk_at "y"
    refine ⟨s, _, rfl, t7.st, by omega, by omega, fun k8 μ8 k80 k81 t8 => ?_⟩
    obtain ⟨x8, e8, m8, _⟩ := atI_ex (xs := [exD (.num k6), exD (.fld k7), exD (.plc sl), exD (.mrk sl), exD (.plc sl)]) k80 k81
    refine w_ixL e8 ?_
    have t18 := t1.trans (t2.trans (t3.trans (t4.trans (t5.trans (t6.trans (t7.trans t8))))))
    simp only [List.mem_cons, List.not_mem_nil, or_false] at m8
    rcases m8 with rfl | rfl | rfl | rfl | rfl
    · exact RtC.same (h _ _ (Nat.zero_le _) t18)
    · exact RtC.same (h _ _ (Nat.zero_le _) t18)
    · exact RtC.same (h _ _ (Nat.zero_le _) t18)
    · exact RtC.same (h _ _ (Nat.zero_le _) t18)
    · exact RtC.same (h _ _ (Nat.zero_le _) t18)
theorem DLe (T : Tt K mg cc) : ∀ n, Df P w K mg base "_law_e" (n + 2) ["_law_stream_here", "_law_deep"] (spLe n)
  | 0 => ELe T 0 1 (by omega) (T.xLe.never scLe)
  | n + 1 => ELe T (n + 1) (n + 2) (by omega) (DLe T n)
/-! ### _law_part -/
def spLpart (n : Nat) : Sp2 := fun ds μ Q _ => ∃ (e : Ex) (p : Addr) (ps : List D), ds = [exD e, .adr p] ∧ dep e ≤ n ∧ μ p = some (.lst ps) ∧ ps.length + nds e ≤ 1000 ∧ Q (prt e ps).1 (mup μ p (.lst (prt e ps).2))
def spLpartp : Nat → Sp2
  | 0 => fun _ _ _ _ => False
  | n + 1 => spLpart n
theorem ELpart (T : Tt K mg cc) (n j : Nat) (hj : j ≤ n + 1) (DLpart : Df P w K mg base "_law_part" j ["_law_e_here", "_law_parts_here"] (spLpartp n)) : Df P w K mg base "_law_part" (n + 2) ["_law_e_here", "_law_parts_here"] (spLpart n) := by
  refine T.xLpart.ok (k := n + 1) scLpart (by rintro ds μ Q E ⟨e, p, ps, rfl, hd, hp, hl, h⟩; rfl) (fun f cdv A outer s H E hr => ⟨_, _, (b_cons (s_if (t_w (k_or (t_eq hr (e_ix (e_pv 0 (pv 0)) e_int (fun _ _ => rfl)) e_str) (k_or1 (t_eq hr (e_ix (e_pv 0 (pv 0)) e_int (fun _ _ => rfl)) e_str))))
      (b_one (s_ret (e_pv 0 (pv 0))))
      b_nil)
      (b_cons (s_if (t_w (k_or (t_eq hr (e_ix (e_pv 0 (pv 0)) e_int (fun _ _ => rfl)) e_str) (k_or1 (t_eq hr (e_ix (e_pv 0 (pv 0)) e_int (fun _ _ => rfl)) e_str))))
      (b_one (s_expr (e_app (e_pv 1 (pv 1)) (a_cons (e_tup (a_cons (e_ix (e_fz (e_lst (a_cons e_str (a_cons e_str a_nil)))) (e_int1 (by rfl) T.b_int (a_cons (e_eq hr (e_ix (e_pv 0 (pv 0)) e_int (fun _ _ => rfl)) e_str) a_nil)) (fun _ _ => rfl)) (a_cons (e_ix (e_pv 0 (pv 0)) e_int (fun _ _ => rfl)) a_nil))) a_nil))))
      (b_one (s_if (t_eq hr (e_ix (e_pv 0 (pv 0)) e_int (fun _ _ => rfl)) e_str)
      (b_cons (s_set (i := 2) (e_call DLpart hr (by rfl) (a_cons (e_ix (e_pv 0 (pv 0)) e_int (fun _ _ => rfl)) (a_cons (e_pv 1 (pv 1)) a_nil)) (hjk := hj)) scLpart.nd rfl (by first | exact Or.inl rfl | exact Or.inr rfl))
      (b_one (s_expr (e_app (e_pv 1 (pv 1)) (a_cons (e_tup (a_cons e_str (a_cons (e_pv 2 (pv 2)) a_nil))) a_nil)))))
      (b_cons (s_set (i := 3) (e_call DLpart hr (by rfl) (a_cons (e_ix (e_pv 0 (pv 0)) e_int (fun _ _ => rfl)) (a_cons (e_pv 1 (pv 1)) a_nil)) (hjk := hj)) scLpart.nd rfl (by first | exact Or.inl rfl | exact Or.inr rfl))
      (b_cons (s_set (i := 4) (e_call DLpart hr (by rfl) (a_cons (e_ix (e_pv 0 (pv 0)) e_int (fun _ _ => rfl)) (a_cons (e_pv 1 (pv 1)) a_nil)) (hjk := hj)) scLpart.nd rfl (by first | exact Or.inl rfl | exact Or.inr rfl))
      (b_one (s_expr (e_app (e_pv 1 (pv 1)) (a_cons (e_tup (a_cons (e_ix (e_pv 0 (pv 0)) e_int (fun _ _ => rfl)) (a_cons (e_pv 3 (pv 3)) (a_cons (e_pv 4 (pv 4)) a_nil)))) a_nil)))))))))
      (b_one (s_ret (e_sub (e_len (by rfl) T.b_len (a_cons (e_pv 1 (pv 1)) a_nil)) e_int))))), ?_⟩)
  rintro ds μ Q E ⟨e, p, ps, rfl, hd, hp, hl, h⟩
  cases e with
  | num k =>
    rw [show (prt (.num k) ps).2 = ps from rfl, mup_self hp] at h
    rw [exD_num]
    walk_at "y"
    exact RtC.same h
  | fld k =>
    rw [show (prt (.fld k) ps).2 = ps from rfl, mup_self hp] at h
    rw [exD_fld]
    walk_at "y"
    exact RtC.same h
  | plc s =>
    have hl2 : ps.length + 1 ≤ 1000 := hl
    rw [exD_plc]
    walk_at "y"
    rw [len_snoc]
    exact RtC.same h
  | mrk s =>
    have hl2 : ps.length + 1 ≤ 1000 := hl
    rw [exD_mrk]
    walk_at "y"
    rw [len_snoc]
    exact RtC.same h
  | cel e =>
    have hl2 : ps.length + (nds e + 1) ≤ 1000 := hl
    have pl := prt_len e ps
    have hd2 : dep e + 1 ≤ n := hd
    rw [exD_cel]
    walk_at "y"
    cases n with
    | zero => omega
    | succ n =>
      refine ⟨e, p, ps, rfl, by omega, hp, by omega, ?_⟩
      walk_at "y"
      rw [len_snoc, mup_mup]
      exact RtC.same h
  | op o a b =>
    have hl2 : ps.length + (nds a + nds b + 1) ≤ 1000 := hl
    obtain ⟨o1, o2, o3, o4, o5, o6, o7⟩ := op_no o
    have pl := prt_len a ps
    have pl2 := prt_len b (prt a ps).2
    have hd2 : max (dep a) (dep b) + 1 ≤ n := hd
    rw [exD_op]
    walk_at "y"
    cases n with
    | zero => omega
    | succ n =>
      refine ⟨a, p, ps, rfl, by omega, hp, by omega, ?_⟩
      walk_at "y"
      refine ⟨b, p, (prt a ps).2, rfl, by omega, by walk_at "mu", by omega, ?_⟩
      walk_at "y"
      rw [len_snoc, mup_mup, mup_mup]
      exact RtC.same h
theorem DLpart (T : Tt K mg cc) : ∀ n, Df P w K mg base "_law_part" (n + 2) ["_law_e_here", "_law_parts_here"] (spLpart n)
  | 0 => ELpart T 0 1 (by omega) (T.xLpart.never scLpart)
  | n + 1 => ELpart T (n + 1) (n + 2) (by omega) (DLpart T n)
/-! ### _law_parts -/
def spLparts : Sp2 := fun ds μ Q _ => ∃ ss : List St, ds = [.tup (ss.map stD)] ∧ ss.length ≤ 20 ∧ (∀ s ∈ ss, stDep s ≤ 3) ∧ ∀ p1 p2 μ', μ p1 = none → μ p2 = none → p1 ≠ p2 → Sub μ μ' → μ' p1 = some (.lst (rts ss).1) → μ' p2 = some (.lst (rts ss).2) → Q (.tup [.adr p1, .adr p2]) μ'
theorem DLparts (T : Tt K mg cc) : Df P w K mg base "_law_parts" 6 ["_law_sets_here"] (spLparts) := by
  have DLpart := DLpart (P := P) (w := w) (base := base) T 3
  refine T.xLparts.ok scLparts (by rintro ds μ Q E ⟨ss, rfl, hn, hd, h⟩; rfl) (fun f cdv A outer s H E hr => ⟨_, _, (b_cons (s_set (i := 1) (e_lst a_nil) scLparts.nd rfl (by first | exact Or.inl rfl | exact Or.inr rfl))
      (b_cons (s_set (i := 2) (e_lst a_nil) scLparts.nd rfl (by first | exact Or.inl rfl | exact Or.inr rfl))
      (b_cons (s_for PassesOwn.never rfl (j_t (e_pv 0 (pv 0))) (g_nm (pg_name (i := 3) scLparts.nd rfl (by first | exact Or.inl rfl | exact Or.inr rfl)))
      (b_one (s_if (t_eq hr (e_ix (e_pv 3 (pv 3)) e_int (fun _ _ => rfl)) e_str)
      (b_cons (s_set (i := 4) (e_call DLpart hr (by rfl) (a_cons (e_ix (e_pv 3 (pv 3)) e_int (fun _ _ => rfl)) (a_cons (e_pv 1 (pv 1)) a_nil))) scLparts.nd rfl (by first | exact Or.inl rfl | exact Or.inr rfl))
      (b_one (s_expr (e_app (e_pv 2 (pv 2)) (a_cons (e_tup (a_cons (e_pv 4 (pv 4)) (a_cons (e_call DLpart hr (by rfl) (a_cons (e_ix (e_pv 3 (pv 3)) e_int (fun _ _ => rfl)) (a_cons (e_pv 1 (pv 1)) a_nil))) a_nil))) a_nil)))))
      (b_one (s_expr (e_app (e_pv 2 (pv 2)) (a_cons (e_tup (a_cons (e_call DLpart hr (by rfl) (a_cons (e_ix (e_pv 3 (pv 3)) e_int (fun _ _ => rfl)) (a_cons (e_pv 1 (pv 1)) a_nil))) a_nil)) a_nil)))))))
      (b_one (s_ret (e_tup (a_cons (e_pv 1 (pv 1)) (a_cons (e_pv 2 (pv 2)) a_nil)))))))), ?_⟩)
  rintro ds μ Q E ⟨ss, rfl, hn, hd, h⟩
  walk_at "y"
  intro p hp
  walk_at "y"
  intro p2 hp2
  have np2p : p2 ≠ p := ne_of_mup hp2
  have hp20 : μ p2 = none := none_sub (Sub.new hp) hp2
  walk_at "y"
  refine Y.Cl.at (ρ' := start2 nLparts [.tup (ss.map stD), .adr p, .adr p2]) (by walk_at "less") Sub.refl (w_turns (fun xs ρ μ' => ∃ dn rs : List St, ss = dn ++ rs ∧ xs = rs.map stD ∧ ρ = start2 nLparts [.tup (ss.map stD), .adr p, .adr p2] ∧ μ' p = some (.lst (rts dn).1) ∧ μ' p2 = some (.lst (rts dn).2) ∧ Sub μ μ') (fun _ _ _ _ => trivial) ?_ ?_ _ _ _ ⟨[], ss, rfl, rfl, rfl, by walk_at "mu", by walk_at "mu", by walk_at "sub"⟩)
  · rintro x xs _ μ1 ⟨dn, rs, hss, hx, rfl, e2, e3, u⟩ N hN
    cases rs with
    | nil => cases hx
    | cons s rs =>
      injection hx with h3 h4
      subst h3
      have hs : stDep s ≤ 3 := hd s (by rw [hss]; exact List.mem_append_right _ List.mem_cons_self)
      have hl : (rts dn).1.length ≤ 0 + 30 * dn.length ∧ (rts dn).2.length = 0 + dn.length := rts_len dn ([], []) fun x hx => hd x (by rw [hss]; exact List.mem_append_left _ hx)
      have hl2 : dn.length + 1 ≤ 20 := by rw [hss, List.length_append, List.length_cons] at hn; omega
      have next : ∀ μ2, μ2 p = some (.lst (stp (rts dn) s).1) → μ2 p2 = some (.lst (stp (rts dn) s).2) → Sub μ μ2 → N (start2 nLparts [.tup (ss.map stD), .adr p, .adr p2]) μ2 := fun μ2 a2 a3 a4 =>
        hN _ _ ⟨dn ++ [s], rs, by rw [hss, List.append_assoc]; rfl, h4, rfl, by rw [rts_snoc]; exact a2, by rw [rts_snoc]; exact a3, a4⟩
      cases s with
      | cel a b =>
        have hs' : max (dep a) (dep b) ≤ 3 := hs
        have n1 := nds15 (e := a) (by omega)
        have n2 := nds15 (e := b) (by omega)
        have h3 := prt_len a (rts dn).1
        have h4 := prt_len b (prt a (rts dn).1).2
        rw [stD_cel]
        walk_at "y"
        refine ⟨a, p, _, rfl, by omega, by walk_at "mu", by omega, ?_⟩
        walk_at "y"
        refine ⟨b, p, _, rfl, by omega, by walk_at "mu", by omega, ?_⟩
        walk_at "y"
        exact Y.Cl.at (by walk_at "less") Sub.refl (next _ (by walk_at "mu") (by walk_at "mu") (by walk_at "sub"))
      | put m s e =>
        have n1 := nds15 (e := e) hs
        have h3 := prt_len e (rts dn).1
        have hm : ¬ (if m then Str.ofString "mark" else Str.ofString "place") = Str.ofString "cell" := by cases m <;> decide +kernel
        rw [stD_put]
        walk_at "y"
        refine ⟨e, p, _, rfl, hs, by walk_at "mu", by omega, ?_⟩
        walk_at "y"
        exact Y.Cl.at (by walk_at "less") Sub.refl (next _ (by walk_at "mu") (by walk_at "mu") (by walk_at "sub"))
  · rintro _ μ1 ⟨dn, rs, hss, hx, rfl, e2, e3, u⟩
    obtain rfl : rs = [] := by cases rs with | nil => rfl | cons _ _ => cases hx
    rw [List.append_nil] at hss
    subst hss
    walk_at "y"
    exact RtC.same (h p p2 _ hp hp20 np2p.symm u e2 e3)
/-! ### _law_is -/
def spLis : Sp2 := fun ds μ Q _ => ∃ (p p2 : Addr) (L : List D), ds = [.adr p, .adr p2] ∧ μ p = some (.lst L) ∧ μ p2 = some (.lst L) ∧ (∀ d ∈ L, RowOk d) ∧ Q (.bl true) μ
theorem DLis (T : Tt K mg cc) : Df P w K mg base "_law_is" 1 ["_law_found", "_law_due"] (spLis) := by
  refine T.xLis.ok scLis (by rintro ds μ Q E ⟨p, p2, L, rfl, e1, e2, hL, q⟩; rfl) (fun f cdv A outer s H E hr => ⟨_, _, (b_cons (s_if (t_w (k_or (t_not (t_val (e_isi (by rfl) T.b_isinstance (a_cons (e_pv 0 (pv 0)) (a_cons (e_bty (n := "list") (by rfl) T.b_list (by decide +kernel)) a_nil))))) (k_or1 (t_ne hr (e_pv 0 (pv 0)) (e_pv 1 (pv 1))))))
      (b_one (s_ret e_bl))
      b_nil)
      (b_cons (s_for PassesOwn.never rfl (j_l (e_pv 0 (pv 0))) (g_nm (pg_name (i := 2) scLis.nd rfl (by first | exact Or.inl rfl | exact Or.inr rfl)))
      (b_cons (s_if (t_not (t_val (e_isi (by rfl) T.b_isinstance (a_cons (e_pv 2 (pv 2)) (a_cons (e_bty (n := "tuple") (by rfl) T.b_tuple (by decide +kernel)) a_nil)))))
      (b_one (s_ret e_bl))
      b_nil)
      (b_one (s_for PassesOwn.never rfl (j_t (e_pv 2 (pv 2))) (g_nm (pg_name (i := 3) scLis.nd rfl (by first | exact Or.inl rfl | exact Or.inr rfl)))
      (b_one (s_if (t_w (k_or (t_val (e_isi (by rfl) T.b_isinstance (a_cons (e_pv 3 (pv 3)) (a_cons (e_bty (n := "bool") (by rfl) T.b_bool (by decide +kernel)) a_nil)))) (k_or1 (t_not (t_val (e_isiT (cs := ["int", "str", "tuple"]) (by rfl) T.b_isinstance (e_pv 3 (pv 3)) (a_cons (e_bty (n := "int") (by rfl) T.b_int (by decide +kernel)) (a_cons (e_bty (n := "str") (by rfl) T.b_str (by decide +kernel)) (a_cons (e_bty (n := "tuple") (by rfl) T.b_tuple (by decide +kernel)) a_nil)))))))))
      (b_one (s_ret e_bl))
      b_nil))))))
      (b_one (s_ret e_bl)))), ?_⟩)
  rintro ds μ Q E ⟨p, p2, L, rfl, e1, e2, hL, q⟩
  have sh := rows_shp hL
  walk_at "y"
  refine w_ne (eq_lsts sh e1 e2) ?_
  walk_at "y"
  refine Y.Cl.same (w_turns (fun xs ρ μ' => ∃ v, ρ = start2 nLis [.adr p, .adr p2] ∧ v = () ∧ μ' = μ ∧ ∀ d ∈ xs, RowOk d) ?_ ?_ ?_ _ _ _ ⟨(), rfl, rfl, rfl, hL⟩)
  · rintro xs ρ _ ⟨_, rfl, _, rfl, _⟩
    exact asL_adr e1
  · rintro d xs _ μx ⟨_, rfl, _, rfl, hx⟩ N hN
    obtain ⟨ts, rfl, ht, _⟩ := hx d List.mem_cons_self
    walk_at "y"
    refine Y.Cl.at (ρ' := start2 nLis [.adr p, .adr p2]) (by walk_at "less") Sub.refl (w_turns (fun xs ρ μ' => ρ = start2 nLis [.adr p, .adr p2] ∧ μ' = μx ∧ ∀ d ∈ xs, ItOk d) (fun _ _ _ _ => trivial) ?_ ?_ _ _ _ ⟨rfl, rfl, ht⟩)
    · rintro t ys _ _ ⟨rfl, rfl, hy⟩ N2 hN2
      rcases hy t List.mem_cons_self with ⟨n, rfl⟩ | ⟨x, rfl⟩ | ⟨us, rfl⟩
      all_goals
        walk_at "y"
        exact Y.Cl.at (by walk_at "less") Sub.refl (hN2 _ _ ⟨rfl, rfl, fun d h => hy d (List.mem_cons_of_mem _ h)⟩)
    · rintro _ _ ⟨rfl, rfl, _⟩
      exact Y.Cl.at (by walk_at "less") Sub.refl (hN _ _ ⟨(), rfl, rfl, rfl, fun d h => hx d (List.mem_cons_of_mem _ h)⟩)
  · rintro _ _ ⟨_, rfl, _, rfl, _⟩
    walk_at "y"
    exact RtC.same q
/-! ### _law_sets -/
def spLsets : Sp2 := fun ds μ Q _ => ∃ s, ds = [.adr s] ∧ Strm μ s ∧ ∀ (ss : List St) μ', ss.length ≤ 4 → (∀ x ∈ ss, stDep x ≤ 3) → Tk s μ μ' → Q (.tup (ss.map stD)) μ'
theorem DLsets (T : Tt K mg cc) : Df P w K mg base "_law_sets" 6 ["_law_stream_here"] (spLsets) := by
  have DLtake := DLtake (P := P) (w := w) (base := base) T
  have DLe := DLe (P := P) (w := w) (base := base) T 3
  refine T.xLsets.ok scLsets (by rintro ds μ Q E ⟨s, rfl, hS, h⟩; rfl) (fun f cdv A outer s H E hr => ⟨_, _, (b_cons (s_set (i := 1) (e_lst a_nil) scLsets.nd rfl (by first | exact Or.inl rfl | exact Or.inr rfl))
      (b_cons (s_set (i := 2) (e_add e_int (e_call DLtake hr (by rfl) (a_cons (e_pv 0 (pv 0)) (a_cons e_int a_nil)))) scLsets.nd rfl (by first | exact Or.inl rfl | exact Or.inr rfl))
      (b_cons (s_for PassesOwn.never rfl (j_r1 (by rfl) T.b_range (a_cons (e_ix (e_fz (e_lst (a_cons e_int (a_cons e_int (a_cons e_int (a_cons e_int (a_cons e_int a_nil))))))) (e_call DLtake hr (by rfl) (a_cons (e_pv 0 (pv 0)) (a_cons e_int a_nil))) (fun _ _ => rfl)) a_nil)) (g_nm (pg_name (i := 3) scLsets.nd rfl (by first | exact Or.inl rfl | exact Or.inr rfl)))
      (b_cons (s_set (i := 4) (e_call DLtake hr (by rfl) (a_cons (e_pv 0 (pv 0)) (a_cons e_int a_nil))) scLsets.nd rfl (by first | exact Or.inl rfl | exact Or.inr rfl))
      (b_cons (s_set (i := 5) (e_ix (e_fz (e_lst (a_cons (e_tup (a_cons e_str (a_cons (e_call DLtake hr (by rfl) (a_cons (e_pv 0 (pv 0)) (a_cons e_int a_nil))) a_nil))) (a_cons (e_tup (a_cons e_str (a_cons (e_call DLtake hr (by rfl) (a_cons (e_pv 0 (pv 0)) (a_cons e_int a_nil))) a_nil))) a_nil)))) (e_call DLtake hr (by rfl) (a_cons (e_pv 0 (pv 0)) (a_cons e_int a_nil))) (fun _ _ => rfl)) scLsets.nd rfl (by first | exact Or.inl rfl | exact Or.inr rfl))
      (b_one (s_if (t_w (k_and (t_eq hr (e_pv 4 (pv 4)) e_int) (k_and1 (t_eq hr (e_fz (e_lc (own := [("_law_one", 6)]) rfl scLsets.nd (j_l (e_pv 1 (pv 1))) (blkOk_by (N := nLsets) (sc := defScope sLsets) (by decide +kernel)) (fun _ _ _ _ _ => ⟨_, (g_nm (pg_name (i := 6) scLsets.nd rfl (by first | exact Or.inl rfl | exact Or.inr rfl)))⟩) (fun _ _ _ _ _ => ⟨_, (ts_one (t_eq hr (e_ix (e_pv 6 (pv 6)) e_int (fun _ _ => rfl)) e_str))⟩) (fun _ _ _ _ _ => ⟨_, (e_pv 6 (pv 6))⟩))) (e_fz (e_lst a_nil))))))
      (b_one (s_expr (e_app (e_pv 1 (pv 1)) (a_cons (e_tup (a_cons e_str (a_cons (e_call DLe hr (by rfl) (a_cons (e_pv 0 (pv 0)) (a_cons (e_pv 2 (pv 2)) a_nil))) (a_cons (e_call DLe hr (by rfl) (a_cons (e_pv 0 (pv 0)) (a_cons (e_pv 2 (pv 2)) a_nil))) a_nil)))) a_nil))))
      (b_one (s_expr (e_app (e_pv 1 (pv 1)) (a_cons (e_tup (a_cons (e_ix (e_fz (e_lst (a_cons e_str (a_cons e_str a_nil)))) (e_int1 (by rfl) T.b_int (a_cons (e_eq hr (e_pv 4 (pv 4)) e_int) a_nil)) (fun _ _ => rfl)) (a_cons (e_pv 5 (pv 5)) (a_cons (e_call DLe hr (by rfl) (a_cons (e_pv 0 (pv 0)) (a_cons (e_pv 2 (pv 2)) a_nil))) a_nil)))) a_nil)))))))))
      (b_one (s_ret (e_tupOf (by rfl) T.b_tuple (a_cons (e_pv 1 (pv 1)) a_nil))))))), ?_⟩)
  rintro ds μ Q E ⟨s, rfl, hS, h⟩
  walk_at "y"
  intro p hp
  walk_at "y"
  have hs0 := hS.ne hp
  have w0 := (TkW.refl hS).up (m := .lst []) hp
  refine ⟨s, _, rfl, w0.1, by omega, by omega, fun k1 μ1 k10 k11 t1 => ?_⟩
  have w1 := w0.tk t1
  have e1 : μ1 p = some (.lst []) := t1.keep mup_same hs0
  walk_at "y"
  refine ⟨s, _, rfl, w1.1, by omega, by omega, fun k2 μ2 k20 k21 t2 => ?_⟩
  have w2 := w1.tk t2
  have e2 : μ2 p = some (.lst []) := t2.keep e1 hs0
  obtain ⟨x, ex, mx, _⟩ := atI_ex (xs := [D.int 1, D.int 2, D.int 3, D.int 4, D.int 0]) k20 k21
  have hx : ∃ n : Int, x = .int n ∧ 0 ≤ n ∧ n ≤ 4 := by
    simp only [List.mem_cons, List.not_mem_nil, or_false] at mx
    rcases mx with rfl | rfl | rfl | rfl | rfl <;> exact ⟨_, rfl, by omega, by omega⟩
  obtain ⟨n, rfl, n0, n1⟩ := hx
  refine w_ixL ex ?_
  walk_at "y"
  refine Y.Cl.at (ρ' := start2 nLsets [.adr s, .adr p, .int (1 + k1)]) (by walk_at "less") Sub.refl (w_turns (fun xs ρ μ' => ∃ ss : List St, ρ = start2 nLsets [.adr s, .adr p, .int (1 + k1)] ∧ μ' p = some (.lst (ss.map stD)) ∧ ss.length + xs.length ≤ 4 ∧ (∀ x ∈ ss, stDep x ≤ 3) ∧ TkW s μ μ') (fun _ _ _ _ => trivial) ?_ ?_ _ _ _ ⟨[], rfl, e2, by rw [rngD_len, List.length_nil]; omega, (fun x h => by cases h), w2⟩)
  · rintro d xs _ μ3 ⟨ss, rfl, e3, l3, d3, w3⟩ N hN
    rw [List.length_cons] at l3
    have next : ∀ (x : St) (μ' : Mu), stDep x ≤ 3 → μ' p = some (.lst (ss.map stD ++ [stD x])) → TkW s μ μ' → N (start2 nLsets [.adr s, .adr p, .int (1 + k1)]) μ' := fun x μ' hx e w =>
      hN _ _ ⟨ss ++ [x], rfl, by rw [List.map_append]; exact e, by rw [List.length_append, List.length_singleton]; omega, fun y hy => by
        rcases List.mem_append.mp hy with hy | hy
        · exact d3 y hy
        · rw [List.mem_singleton.mp hy]; exact hx, w⟩
    walk_at "y"
    refine ⟨s, _, rfl, w3.1, by omega, by omega, fun way μ4 y0 y1 t4 => ?_⟩
    have w4 := w3.tk t4
    have e4 := t4.keep e3 hs0
    walk_at "y"
    refine ⟨s, _, rfl, w4.1, by omega, by omega, fun k5 μ5 k50 k51 t5 => ?_⟩
    have w5 := w4.tk t5
    have e5 := t5.keep e4 hs0
    walk_at "y"
    refine ⟨s, _, rfl, w5.1, by omega, by omega, fun k6 μ6 k60 k61 t6 => ?_⟩
    have w6 := w5.tk t6
    have e6 := t6.keep e5 hs0
    walk_at "y"
    refine ⟨s, _, rfl, w6.1, by omega, by omega, fun k7 μ7 k70 k71 t7 => ?_⟩
    have w7 := w6.tk t7
    have e7 := t7.keep e6 hs0
    obtain ⟨x4, ex4, m4, _⟩ := atI_ex (xs := [D.tup [.str (Str.ofString "is"), .int k5], D.tup [.str (Str.ofString "by"), .int k6]]) k70 k71
    have h4 : ∃ sl : Sl, x4 = slD sl := by
      simp only [List.mem_cons, List.not_mem_nil, or_false] at m4
      rcases m4 with rfl | rfl
      · exact ⟨(false, k5), rfl⟩
      · exact ⟨(true, k6), rfl⟩
    obtain ⟨sl, rfl⟩ := h4
    refine w_ixL ex4 ?_
    walk_at "y"
    refine br_dec (fun h0 => ?_) (fun h0 => ?_)
    · walk_at "y"
      refine w_lcInv (fun xs acc μ' => ∃ rest got : List St, xs = rest.map stD ∧ acc = got.map stD ∧ (∀ x ∈ rest, stDep x ≤ 3) ∧ (∀ x ∈ got, stDep x ≤ 3) ∧ got.length + rest.length ≤ 4 ∧ μ' = μ7) ?_ ?_ ?_ _ _ _ ⟨ss, [], rfl, rfl, d3, (fun x h => by cases h), by rw [List.length_nil]; omega, rfl⟩
      · rintro xs acc _ ⟨rest, got, rfl, rfl, _, _, hle, rfl⟩
        refine ⟨asL_adr e7, sz_lt ?_⟩
        rw [List.length_map]; omega
      · rintro x xs acc _ ⟨rest, got, hx, rfl, dr, dg, hle, rfl⟩ N1 N0 hN1 hN0
        cases rest with
        | nil => cases hx
        | cons y rest =>
          injection hx with h3 h4
          subst h3
          rw [List.length_cons] at hle
          cases y with
          | cel a b =>
            rw [stD_cel]
            walk_at "y"
            refine hN1 _ _ ⟨rest, got ++ [.cel a b], h4, by rw [List.map_append]; rfl, fun z hz => dr z (List.mem_cons_of_mem _ hz), fun z hz => ?_, by rw [List.length_append, List.length_singleton]; omega, rfl⟩
            rcases List.mem_append.mp hz with hz | hz
            · exact dg z hz
            · rw [List.mem_singleton.mp hz]; exact dr _ List.mem_cons_self
          | put m sl2 e =>
            have hm : ¬ (if m then Str.ofString "mark" else Str.ofString "place") = Str.ofString "cell" := by cases m <;> decide +kernel
            rw [stD_put]
            walk_at "y"
            exact hN0 _ ⟨rest, got, h4, rfl, fun z hz => dr z (List.mem_cons_of_mem _ hz), dg, by omega, rfl⟩
      · rintro acc μx ⟨rest, got, hx, rfl, dr, dg, hle, e⟩ p2 hp2
        rw [e] at hp2 ⊢
        walk_at "y"
        refine w_eqD (shpA_all (n := 63) fun d hd => ?_) rfl ?_
        · obtain ⟨z, hz, rfl⟩ := List.mem_map.mp hd
          exact shp_le (shp_st z (dg z hz)) (by decide)
        walk_at "y"
        refine br_op (fun _ => ?_) (fun _ => ?_)
        · walk_at "y"
          refine ⟨s, _, rfl, by omega, w7.1, fun e8 μ8 he8 t8 => ?_⟩
          have w8 := w7.tk t8
          have e8' := t8.keep e7 hs0
          walk_at "y"
          refine ⟨s, _, rfl, by omega, w8.1, fun e9 μ9 he9 t9 => ?_⟩
          have w9 := w8.tk t9
          have e9' := t9.keep e8' hs0
          walk_at "y"
          exact Y.Cl.at (by walk_at "less") Sub.refl (next (.cel e8 e9) _ (by show max (dep e8) (dep e9) ≤ 3; omega) mup_same (w9.set hp hs0))
        · walk_at "y"
          obtain ⟨x8, ex8, m8, _⟩ := atI_ex (xs := [D.str (Str.ofString "place"), D.str (Str.ofString "mark")]) (k := if decide (way = 1) then 1 else 0) (by split <;> omega) (show _ < (2 : Int) by split <;> omega)
          have h8 : ∃ m : Bool, x8 = .str (if m then Str.ofString "mark" else Str.ofString "place") := by
            simp only [List.mem_cons, List.not_mem_nil, or_false] at m8
            rcases m8 with rfl | rfl
            · exact ⟨false, rfl⟩
            · exact ⟨true, rfl⟩
          obtain ⟨m, rfl⟩ := h8
          refine w_ixL ex8 ?_
          walk_at "y"
          refine ⟨s, _, rfl, by omega, w7.1, fun e8 μ8 he8 t8 => ?_⟩
          have w8 := w7.tk t8
          have e8' := t8.keep e7 hs0
          walk_at "y"
          exact Y.Cl.at (by walk_at "less") Sub.refl (next (.put m sl e8) _ he8 mup_same (w8.set hp hs0))
    · walk_at "y"
      obtain ⟨x8, ex8, m8, _⟩ := atI_ex (xs := [D.str (Str.ofString "place"), D.str (Str.ofString "mark")]) (k := if decide (way = 1) then 1 else 0) (by split <;> omega) (show _ < (2 : Int) by split <;> omega)
      have h8 : ∃ m : Bool, x8 = .str (if m then Str.ofString "mark" else Str.ofString "place") := by
        simp only [List.mem_cons, List.not_mem_nil, or_false] at m8
        rcases m8 with rfl | rfl
        · exact ⟨false, rfl⟩
        · exact ⟨true, rfl⟩
      obtain ⟨m, rfl⟩ := h8
      refine w_ixL ex8 ?_
      walk_at "y"
      refine ⟨s, _, rfl, by omega, w7.1, fun e8 μ8 he8 t8 => ?_⟩
      have w8 := w7.tk t8
      have e8' := t8.keep e7 hs0
      walk_at "y"
      exact Y.Cl.at (by walk_at "less") Sub.refl (next (.put m sl e8) _ he8 mup_same (w8.set hp hs0))
  · rintro _ μ3 ⟨ss, rfl, e3, l3, d3, w3⟩
    rw [List.length_nil] at l3
    walk_at "y"
    obtain ⟨μ9, g1, g2⟩ := w3.fix
    exact RtC.less g2 (h ss μ9 (by omega) d3 g1)
/-! ### law -/
abbrev splaw : Sp2 := spLaw
theorem Dlaw (T : Tt K mg cc) : Df P w K mg base "law" 8 ["_law_script"] (splaw) := by
  have Dparts_of := Dparts_of (P := P) (w := w) (base := base) T
  have Droots_of := Droots_of (P := P) (w := w) (base := base) T
  have DLcell := DLcell (P := P) (w := w) (base := base) T
  have DLstream := DLstream (P := P) (w := w) (base := base) T
  have DLsets := DLsets (P := P) (w := w) (base := base) T
  have DLparts := DLparts (P := P) (w := w) (base := base) T
  have DLis := DLis (P := P) (w := w) (base := base) T
  refine T.xlaw.ok sclaw (by rintro ds μ Q E ⟨ns, rfl, hl, q⟩; rfl) (fun f cdv A outer s H E hr => ⟨_, _, (b_cons (s_for PassesOwn.never rfl (j_r1 (by rfl) T.b_range (a_cons (e_max2 (by rfl) T.b_max (a_cons e_int (a_cons (e_min2 (by rfl) T.b_min (a_cons (e_len (by rfl) T.b_len (a_cons (e_pv 0 (pv 0)) a_nil)) (a_cons e_int a_nil))) a_nil))) a_nil)) (g_nm (pg_name (i := 1) sclaw.nd rfl (by first | exact Or.inl rfl | exact Or.inr rfl)))
      (b_cons (s_set (i := 2) (e_call DLstream hr (by rfl) (a_cons (e_call DLcell hr (by rfl) (a_cons (e_pv 0 (pv 0)) (a_cons (e_pv 1 (pv 1)) a_nil))) a_nil)) sclaw.nd rfl (by first | exact Or.inl rfl | exact Or.inr rfl))
      (b_cons (s_set (i := 3) (e_fz (e_lst (a_cons (e_call DLsets hr (by rfl) (a_cons (e_pv 2 (pv 2)) a_nil)) (a_cons (e_call DLsets hr (by rfl) (a_cons (e_pv 2 (pv 2)) a_nil)) a_nil)))) sclaw.nd rfl (by first | exact Or.inl rfl | exact Or.inr rfl))
      (b_one (s_for PassesOwn.never rfl (j_r1 (by rfl) T.b_range (a_cons e_int a_nil)) (g_nm (pg_name (i := 4) sclaw.nd rfl (by first | exact Or.inl rfl | exact Or.inr rfl)))
      (b_one (s_for PassesOwn.never rfl (j_l (e_pv 3 (pv 3))) (g_nm (pg_name (i := 5) sclaw.nd rfl (by first | exact Or.inl rfl | exact Or.inr rfl)))
      (b_cons (s_asg (e_call DLparts hr (by rfl) (a_cons (e_pv 5 (pv 5)) a_nil)) (g_un (n := 2) rfl (gs_cons (g_nm (pg_name (i := 6) sclaw.nd rfl (by first | exact Or.inl rfl | exact Or.inr rfl))) (gs_cons (g_nm (pg_name (i := 7) sclaw.nd rfl (by first | exact Or.inl rfl | exact Or.inr rfl))) gs_nil))))
      (b_cons (s_set (i := 8) (e_fz (e_lst (a_cons (e_call Droots_of hr (by rfl) (a_cons (e_pv 5 (pv 5)) a_nil)) (a_cons (e_call Dparts_of hr (by rfl) (a_cons (e_pv 5 (pv 5)) a_nil)) a_nil)))) sclaw.nd rfl (by first | exact Or.inl rfl | exact Or.inr rfl))
      (b_cons (s_if (t_w (k_or (t_not (t_val (e_call DLis hr (by rfl) (a_cons (e_ix (e_pv 8 (pv 8)) e_int (fun _ _ => rfl)) (a_cons (e_pv 7 (pv 7)) a_nil))))) (k_or1 (t_not (t_val (e_call DLis hr (by rfl) (a_cons (e_ix (e_pv 8 (pv 8)) e_int (fun _ _ => rfl)) (a_cons (e_pv 6 (pv 6)) a_nil))))))))
      (b_one (s_ret e_bl))
      b_nil)
      (b_cons (s_expr (e_app (e_ix (e_pv 8 (pv 8)) e_int (fun _ _ => rfl)) (a_cons (e_tup (a_cons e_int a_nil)) a_nil)))
      (b_one (s_expr (e_clear (e_ix (e_pv 8 (pv 8)) e_int (fun _ _ => rfl))))))))))))))))
      (b_one (s_ret e_bl))), ?_⟩)
  rintro ds μ Q E ⟨ns, rfl, hl, q⟩
  walk_at "y"
  refine Y.Cl.at (ρ' := start2 nlaw [.scr ns]) (by walk_at "less") Sub.refl (w_turns (fun xs ρ μ' => ρ = start2 nlaw [.scr ns] ∧ ∀ d ∈ xs, ∃ k : Int, d = .int k ∧ 0 ≤ k ∧ k < 1000000) (fun _ _ _ _ => trivial) ?_ ?_ _ _ _ ⟨rfl, ?_⟩)
  · rintro d xs ρ μ1 ⟨rfl, hd⟩ N hN
    obtain ⟨k, rfl, k0, k1⟩ := hd d List.mem_cons_self
    walk_at "y"
    refine ⟨ns, k, rfl, k0, k1, fun c => ?_⟩
    walk_at "y"
    refine ⟨c, rfl, fun st μ2 hst hS hμ2 => ?_⟩
    walk_at "y"
    refine ⟨st, rfl, hS, fun ss μ3 l3 d3 t3 => ?_⟩
    walk_at "y"
    refine ⟨st, rfl, t3.st, fun zz μ4 l4 d4 t4 => ?_⟩
    walk_at "y"
    refine Y.Cl.at (ρ' := start2 nlaw [.scr ns, .int k, .adr st, .lst [.tup (ss.map stD), .tup (zz.map stD)]]) (by walk_at "less") Sub.refl (w_turns (fun xs ρ μ' => ρ = start2 nlaw [.scr ns, .int k, .adr st, .lst [.tup (ss.map stD), .tup (zz.map stD)]]) (fun _ _ _ _ => trivial) ?_ ?_ _ _ _ rfl)
    · rintro d2 xs2 _ μ5 rfl N2 hN2
      walk_at "y"
      refine Y.Cl.at (ρ' := start2 nlaw [.scr ns, .int k, .adr st, .lst [.tup (ss.map stD), .tup (zz.map stD)]]) (by walk_at "less") Sub.refl (w_turns (fun xs ρ μ' => ρ = start2 nlaw [.scr ns, .int k, .adr st, .lst [.tup (ss.map stD), .tup (zz.map stD)]] ∧ ∀ d ∈ xs, ∃ us : List St, d = .tup (us.map stD) ∧ us.length ≤ 4 ∧ ∀ x ∈ us, stDep x ≤ 3) (fun _ _ _ _ => rfl) ?_ ?_ _ _ _ ⟨rfl, ?_⟩)
      · rintro d3 xs3 _ μ6 ⟨rfl, hx⟩ N3 hN3
        obtain ⟨us, rfl, lu, du⟩ := hx d3 List.mem_cons_self
        have hl := rts_len us ([], []) du
        have hl2 : (rts us).2.length = 0 + us.length := hl.2
        have ok := rts_ok us ([], []) (fun _ h => by cases h) (fun _ h => by cases h)
        walk_at "y"
        refine ⟨us, rfl, by omega, du, fun p1 p2 μ7 n1 n2 ne u7 a1 a2 => ?_⟩
        walk_at "y"
        refine ⟨us, rfl, by omega, du, fun p3 μ8 n3 u8 a3 => ?_⟩
        walk_at "y"
        refine ⟨us, rfl, by omega, du, fun p4 μ9 n4 u9 a4 => ?_⟩
        have b3 := u9 _ _ a3
        walk_at "y"
        refine ⟨p3, p2, (rts us).2, rfl, b3, u9 _ _ (u8 _ _ a2), ok.2, ?_⟩
        walk_at "y"
        refine ⟨p4, p1, (rts us).1, rfl, a4, u9 _ _ (u8 _ _ a1), ok.1, ?_⟩
        walk_at "y"
        exact Y.Cl.at (by walk_at "less") Sub.refl (hN3 _ _ ⟨rfl, fun d h => hx d (List.mem_cons_of_mem _ h)⟩)
      · rintro _ μ6 ⟨rfl, _⟩
        walk_at "y"
        exact Y.Cl.at (by walk_at "less") Sub.refl (hN2 _ _ rfl)
      · intro d hd
        simp only [List.mem_cons, List.not_mem_nil, or_false] at hd
        rcases hd with rfl | rfl
        · exact ⟨ss, rfl, l3, d3⟩
        · exact ⟨zz, rfl, l4, d4⟩
    · rintro _ μ5 rfl
      walk_at "y"
      exact Y.Cl.at (by walk_at "less") Sub.refl (hN _ _ ⟨rfl, fun d h => hd d (List.mem_cons_of_mem _ h)⟩)
  · rintro ρ μ' ⟨rfl, _⟩
    walk_at "y"
    exact RtC.same (q _)
  · intro d hd
    unfold rngD at hd
    simp only [List.mem_map, List.mem_range] at hd
    obtain ⟨i, hi, rfl⟩ := hd
    exact ⟨_, rfl, by omega, by omega⟩

end W
namespace W
open PySem PySem.Spec PyProof.Rows L2 Y
theorem tt_mk {K : PySem.W.Frag} {h : Heap} {mg : Str → Option Value} (X : K.In h) (G : h.Ns mainGlobals mg)
    {C0 : Addr} (aC0 : PySem.W.nsIn K mainGlobals "Parts" = some (some (.ref C0))) (pg0 : PySem.W.plainGet K C0 Str.empty = true) (hd0 : PySem.W.hasDictIn K C0 = true) (po0 : PySem.W.plainOver K C0 = true) (sa0 : PySem.W.findIn K (.ref C0) "__setattr__" = some (some (.builtin "object.__setattr__"))) (mk0 : PySem.W.makesIn K C0 = true) (kc0 : PySem.W.keepIn K (.ref C0) = true)
    {f1 : Addr} {od1 an1 : Option Addr} {sl1 : Array (Option Value)} {oc1 kV1 dc1 pm1 cd1 ct1 : Value} (a1 : PySem.W.findIn K (.ref C0) "__init__" = some (some (.ref f1))) (i1 : PySem.W.isFn K (.ref f1) = true) (l1 : K.lookup f1 = some ⟨oc1, od1, .func (PySem.W.fnOf "__init__" "Parts.__init__" (defArgs sParts_init) (defBody sParts_init) (defScope sParts_init) .none kV1 dc1 pm1 an1 cd1 ct1), sl1⟩) (c1 : PySem.W.codeIn K cd1 "Parts.__init__" = true) (k1 : PySem.W.keepIn K (.ref f1) = true)
    {f2 : Addr} {od2 an2 : Option Addr} {sl2 : Array (Option Value)} {oc2 kV2 dc2 pm2 cd2 ct2 : Value} (a2 : PySem.W.findIn K (.ref C0) "part_in" = some (some (.ref f2))) (i2 : PySem.W.isFn K (.ref f2) = true) (l2 : K.lookup f2 = some ⟨oc2, od2, .func (PySem.W.fnOf "part_in" "Parts.part_in" (defArgs sParts_part_in) (defBody sParts_part_in) (defScope sParts_part_in) .none kV2 dc2 pm2 an2 cd2 ct2), sl2⟩) (c2 : PySem.W.codeIn K cd2 "Parts.part_in" = true) (k2 : PySem.W.keepIn K (.ref f2) = true)
    {f3 : Addr} {od3 an3 : Option Addr} {sl3 : Array (Option Value)} {oc3 kV3 dc3 pm3 cd3 ct3 : Value} (a3 : PySem.W.nsIn K mainGlobals "rests_of" = some (some (.ref f3))) (l3 : K.lookup f3 = some ⟨oc3, od3, .func (PySem.W.fnOf "rests_of" "rests_of" (defArgs srests_of) (defBody srests_of) (defScope srests_of) .none kV3 dc3 pm3 an3 cd3 ct3), sl3⟩) (c3 : PySem.W.codeIn K cd3 "rests_of" = true) (k3 : PySem.W.keepIn K (.ref f3) = true)
    {f4 : Addr} {od4 an4 : Option Addr} {sl4 : Array (Option Value)} {oc4 kV4 dc4 pm4 cd4 ct4 : Value} (a4 : PySem.W.nsIn K mainGlobals "parts_and_roots" = some (some (.ref f4))) (l4 : K.lookup f4 = some ⟨oc4, od4, .func (PySem.W.fnOf "parts_and_roots" "parts_and_roots" (defArgs sparts_and_roots) (defBody sparts_and_roots) (defScope sparts_and_roots) .none kV4 dc4 pm4 an4 cd4 ct4), sl4⟩) (c4 : PySem.W.codeIn K cd4 "parts_and_roots" = true) (k4 : PySem.W.keepIn K (.ref f4) = true)
    {f5 : Addr} {od5 an5 : Option Addr} {sl5 : Array (Option Value)} {oc5 kV5 dc5 pm5 cd5 ct5 : Value} (a5 : PySem.W.nsIn K mainGlobals "parts_of" = some (some (.ref f5))) (l5 : K.lookup f5 = some ⟨oc5, od5, .func (PySem.W.fnOf "parts_of" "parts_of" (defArgs sparts_of) (defBody sparts_of) (defScope sparts_of) .none kV5 dc5 pm5 an5 cd5 ct5), sl5⟩) (c5 : PySem.W.codeIn K cd5 "parts_of" = true) (k5 : PySem.W.keepIn K (.ref f5) = true)
    {f6 : Addr} {od6 an6 : Option Addr} {sl6 : Array (Option Value)} {oc6 kV6 dc6 pm6 cd6 ct6 : Value} (a6 : PySem.W.nsIn K mainGlobals "roots_of" = some (some (.ref f6))) (l6 : K.lookup f6 = some ⟨oc6, od6, .func (PySem.W.fnOf "roots_of" "roots_of" (defArgs sroots_of) (defBody sroots_of) (defScope sroots_of) .none kV6 dc6 pm6 an6 cd6 ct6), sl6⟩) (c6 : PySem.W.codeIn K cd6 "roots_of" = true) (k6 : PySem.W.keepIn K (.ref f6) = true)
    {f7 : Addr} {od7 an7 : Option Addr} {sl7 : Array (Option Value)} {oc7 kV7 dc7 pm7 cd7 ct7 : Value} (a7 : PySem.W.nsIn K mainGlobals "_law_cell" = some (some (.ref f7))) (l7 : K.lookup f7 = some ⟨oc7, od7, .func (PySem.W.fnOf "_law_cell" "_law_cell" (defArgs sLcell) (defBody sLcell) (defScope sLcell) .none kV7 dc7 pm7 an7 cd7 ct7), sl7⟩) (c7 : PySem.W.codeIn K cd7 "_law_cell" = true) (k7 : PySem.W.keepIn K (.ref f7) = true)
    {f8 : Addr} {od8 an8 : Option Addr} {sl8 : Array (Option Value)} {oc8 kV8 dc8 pm8 cd8 ct8 : Value} (a8 : PySem.W.nsIn K mainGlobals "_law_stream" = some (some (.ref f8))) (l8 : K.lookup f8 = some ⟨oc8, od8, .func (PySem.W.fnOf "_law_stream" "_law_stream" (defArgs sLstream) (defBody sLstream) (defScope sLstream) .none kV8 dc8 pm8 an8 cd8 ct8), sl8⟩) (c8 : PySem.W.codeIn K cd8 "_law_stream" = true) (k8 : PySem.W.keepIn K (.ref f8) = true)
    {f9 : Addr} {od9 an9 : Option Addr} {sl9 : Array (Option Value)} {oc9 kV9 dc9 pm9 cd9 ct9 : Value} (a9 : PySem.W.nsIn K mainGlobals "_law_take" = some (some (.ref f9))) (l9 : K.lookup f9 = some ⟨oc9, od9, .func (PySem.W.fnOf "_law_take" "_law_take" (defArgs sLtake) (defBody sLtake) (defScope sLtake) .none kV9 dc9 pm9 an9 cd9 ct9), sl9⟩) (c9 : PySem.W.codeIn K cd9 "_law_take" = true) (k9 : PySem.W.keepIn K (.ref f9) = true)
    {f10 : Addr} {od10 an10 : Option Addr} {sl10 : Array (Option Value)} {oc10 kV10 dc10 pm10 cd10 ct10 : Value} (a10 : PySem.W.nsIn K mainGlobals "_law_e" = some (some (.ref f10))) (l10 : K.lookup f10 = some ⟨oc10, od10, .func (PySem.W.fnOf "_law_e" "_law_e" (defArgs sLe) (defBody sLe) (defScope sLe) .none kV10 dc10 pm10 an10 cd10 ct10), sl10⟩) (c10 : PySem.W.codeIn K cd10 "_law_e" = true) (k10 : PySem.W.keepIn K (.ref f10) = true)
    {f11 : Addr} {od11 an11 : Option Addr} {sl11 : Array (Option Value)} {oc11 kV11 dc11 pm11 cd11 ct11 : Value} (a11 : PySem.W.nsIn K mainGlobals "_law_sets" = some (some (.ref f11))) (l11 : K.lookup f11 = some ⟨oc11, od11, .func (PySem.W.fnOf "_law_sets" "_law_sets" (defArgs sLsets) (defBody sLsets) (defScope sLsets) .none kV11 dc11 pm11 an11 cd11 ct11), sl11⟩) (c11 : PySem.W.codeIn K cd11 "_law_sets" = true) (k11 : PySem.W.keepIn K (.ref f11) = true)
    {f12 : Addr} {od12 an12 : Option Addr} {sl12 : Array (Option Value)} {oc12 kV12 dc12 pm12 cd12 ct12 : Value} (a12 : PySem.W.nsIn K mainGlobals "_law_part" = some (some (.ref f12))) (l12 : K.lookup f12 = some ⟨oc12, od12, .func (PySem.W.fnOf "_law_part" "_law_part" (defArgs sLpart) (defBody sLpart) (defScope sLpart) .none kV12 dc12 pm12 an12 cd12 ct12), sl12⟩) (c12 : PySem.W.codeIn K cd12 "_law_part" = true) (k12 : PySem.W.keepIn K (.ref f12) = true)
    {f13 : Addr} {od13 an13 : Option Addr} {sl13 : Array (Option Value)} {oc13 kV13 dc13 pm13 cd13 ct13 : Value} (a13 : PySem.W.nsIn K mainGlobals "_law_parts" = some (some (.ref f13))) (l13 : K.lookup f13 = some ⟨oc13, od13, .func (PySem.W.fnOf "_law_parts" "_law_parts" (defArgs sLparts) (defBody sLparts) (defScope sLparts) .none kV13 dc13 pm13 an13 cd13 ct13), sl13⟩) (c13 : PySem.W.codeIn K cd13 "_law_parts" = true) (k13 : PySem.W.keepIn K (.ref f13) = true)
    {f14 : Addr} {od14 an14 : Option Addr} {sl14 : Array (Option Value)} {oc14 kV14 dc14 pm14 cd14 ct14 : Value} (a14 : PySem.W.nsIn K mainGlobals "_law_is" = some (some (.ref f14))) (l14 : K.lookup f14 = some ⟨oc14, od14, .func (PySem.W.fnOf "_law_is" "_law_is" (defArgs sLis) (defBody sLis) (defScope sLis) .none kV14 dc14 pm14 an14 cd14 ct14), sl14⟩) (c14 : PySem.W.codeIn K cd14 "_law_is" = true) (k14 : PySem.W.keepIn K (.ref f14) = true)
    {f15 : Addr} {od15 an15 : Option Addr} {sl15 : Array (Option Value)} {oc15 kV15 dc15 pm15 cd15 ct15 : Value} (a15 : PySem.W.nsIn K mainGlobals "law" = some (some (.ref f15))) (l15 : K.lookup f15 = some ⟨oc15, od15, .func (PySem.W.fnOf "law" "law" (defArgs slaw) (defBody slaw) (defScope slaw) .none kV15 dc15 pm15 an15 cd15 ct15), sl15⟩) (c15 : PySem.W.codeIn K cd15 "law" = true) (k15 : PySem.W.keepIn K (.ref f15) = true)
    (zb_bool : PySem.W.nsIn K mainGlobals "bool" = some none)
    (zb_int : PySem.W.nsIn K mainGlobals "int" = some none)
    (zb_isinstance : PySem.W.nsIn K mainGlobals "isinstance" = some none)
    (zb_len : PySem.W.nsIn K mainGlobals "len" = some none)
    (zb_list : PySem.W.nsIn K mainGlobals "list" = some none)
    (zb_max : PySem.W.nsIn K mainGlobals "max" = some none)
    (zb_min : PySem.W.nsIn K mainGlobals "min" = some none)
    (zb_range : PySem.W.nsIn K mainGlobals "range" = some none)
    (zb_str : PySem.W.nsIn K mainGlobals "str" = some none)
    (zb_tuple : PySem.W.nsIn K mainGlobals "tuple" = some none)
    (zn_Parts_rows : PySem.W.findIn K (.ref C0) "rows" = some none)
    : Tt K mg (fun i => [C0].getD i C0) :=
  ⟨⟨⟨pg0, hd0, po0, sa0⟩, PySem.W.mg_of X G aC0, mk0, kc0⟩,
   ⟨⟨f1, _, fun_mk (st := sParts_init) l1 c1 k1, ⟨a1, i1, k1⟩, (fun_mk (st := sParts_init) l1 c1 k1).binds fun _ _ _ _ _ _ us hl => match us, hl with | [_], _ => rfl⟩⟩,
   ⟨⟨f2, _, fun_mk (st := sParts_part_in) l2 c2 k2, ⟨a2, i2, k2⟩, (fun_mk (st := sParts_part_in) l2 c2 k2).binds fun _ _ _ _ _ _ us hl => match us, hl with | [_, _], _ => rfl⟩⟩,
   ⟨⟨f3, _, fun_mk (st := srests_of) l3 c3 k3, PySem.W.mg_of X G a3, (fun_mk (st := srests_of) l3 c3 k3).binds fun _ _ _ _ _ _ us hl => match us, hl with | [_], _ => rfl⟩⟩,
   ⟨⟨f4, _, fun_mk (st := sparts_and_roots) l4 c4 k4, PySem.W.mg_of X G a4, (fun_mk (st := sparts_and_roots) l4 c4 k4).binds fun _ _ _ _ _ _ us hl => match us, hl with | [_], _ => rfl⟩⟩,
   ⟨⟨f5, _, fun_mk (st := sparts_of) l5 c5 k5, PySem.W.mg_of X G a5, (fun_mk (st := sparts_of) l5 c5 k5).binds fun _ _ _ _ _ _ us hl => match us, hl with | [_], _ => rfl⟩⟩,
   ⟨⟨f6, _, fun_mk (st := sroots_of) l6 c6 k6, PySem.W.mg_of X G a6, (fun_mk (st := sroots_of) l6 c6 k6).binds fun _ _ _ _ _ _ us hl => match us, hl with | [_], _ => rfl⟩⟩,
   ⟨⟨f7, _, fun_mk (st := sLcell) l7 c7 k7, PySem.W.mg_of X G a7, (fun_mk (st := sLcell) l7 c7 k7).binds fun _ _ _ _ _ _ us hl => match us, hl with | [_, _], _ => rfl⟩⟩,
   ⟨⟨f8, _, fun_mk (st := sLstream) l8 c8 k8, PySem.W.mg_of X G a8, (fun_mk (st := sLstream) l8 c8 k8).binds fun _ _ _ _ _ _ us hl => match us, hl with | [_], _ => rfl⟩⟩,
   ⟨⟨f9, _, fun_mk (st := sLtake) l9 c9 k9, PySem.W.mg_of X G a9, (fun_mk (st := sLtake) l9 c9 k9).binds fun _ _ _ _ _ _ us hl => match us, hl with | [_, _], _ => rfl⟩⟩,
   ⟨⟨f10, _, fun_mk (st := sLe) l10 c10 k10, PySem.W.mg_of X G a10, (fun_mk (st := sLe) l10 c10 k10).binds fun _ _ _ _ _ _ us hl => match us, hl with | [_, _], _ => rfl⟩⟩,
   ⟨⟨f11, _, fun_mk (st := sLsets) l11 c11 k11, PySem.W.mg_of X G a11, (fun_mk (st := sLsets) l11 c11 k11).binds fun _ _ _ _ _ _ us hl => match us, hl with | [_], _ => rfl⟩⟩,
   ⟨⟨f12, _, fun_mk (st := sLpart) l12 c12 k12, PySem.W.mg_of X G a12, (fun_mk (st := sLpart) l12 c12 k12).binds fun _ _ _ _ _ _ us hl => match us, hl with | [_, _], _ => rfl⟩⟩,
   ⟨⟨f13, _, fun_mk (st := sLparts) l13 c13 k13, PySem.W.mg_of X G a13, (fun_mk (st := sLparts) l13 c13 k13).binds fun _ _ _ _ _ _ us hl => match us, hl with | [_], _ => rfl⟩⟩,
   ⟨⟨f14, _, fun_mk (st := sLis) l14 c14 k14, PySem.W.mg_of X G a14, (fun_mk (st := sLis) l14 c14 k14).binds fun _ _ _ _ _ _ us hl => match us, hl with | [_, _], _ => rfl⟩⟩,
   ⟨⟨f15, _, fun_mk (st := slaw) l15 c15 k15, PySem.W.mg_of X G a15, (fun_mk (st := slaw) l15 c15 k15).binds fun _ _ _ _ _ _ us hl => match us, hl with | [_], _ => rfl⟩⟩,
   PySem.W.mg_none_of X G zb_bool,
   PySem.W.mg_none_of X G zb_int,
   PySem.W.mg_none_of X G zb_isinstance,
   PySem.W.mg_none_of X G zb_len,
   PySem.W.mg_none_of X G zb_list,
   PySem.W.mg_none_of X G zb_max,
   PySem.W.mg_none_of X G zb_min,
   PySem.W.mg_none_of X G zb_range,
   PySem.W.mg_none_of X G zb_str,
   PySem.W.mg_none_of X G zb_tuple,
   zn_Parts_rows⟩
theorem law_mk {l : PySem.W.OpenLaw} {w : World} {K : PySem.W.Frag} {mg : Str → Option Value} {fa : Addr} {cc : Nat → Addr} (T : Tt K mg cc) (hfa : mg "law" = some (.ref fa)) :
    ∃ fd : FuncData, (∀ (s : Shared) (v : Value), BindsTo s fd ⟨[v], []⟩ [("_law_script", v)]) ∧ ∀ base : Heap, K.In base → base.Ns mainGlobals mg → FnOk l.prog w K mg base CX0 8 fa fd ["_law_script"] (toSp K spLaw) := by
  obtain ⟨f, fd, F, hm, hb⟩ := T.xlaw.of
  cases hfa.symm.trans hm
  obtain ⟨oc, od, kV, doc, pm, an, cdv, ct, osl, rfl, lk, hcd⟩ := F.ex
  refine ⟨PySem.W.fnOf "law" "law" (defArgs slaw) (defBody slaw) (defScope slaw) .none kV doc pm an cdv ct, fun s v => .of_eq rfl, fun base _ _ => ?_⟩
  obtain ⟨f2, fd2, G, hm2, hk2, hb2, oc2, od2, osl2, lk2⟩ := (Dlaw (P := l.prog) (w := w) (base := base) T).of
  cases hm.symm.trans hm2
  exact fn_same G lk2 lk
end W
open PySem PySem.W PyProof.Rows
set_option maxHeartbeats 0 in
theorem PySem.Challenge.cw_rowsbeneath_k28_parts_and_what_sets_rest_holds : PySem.Challenge.rw_rowsbeneath_k28_parts_and_what_sets_rest.Holds := by
  w_on; o_law; k_head; (case hw => w_witness2)
  k_fill
  refine L2.walk_of (l := PySem.Challenge.rw_rowsbeneath_k28_parts_and_what_sets_rest) (n := 63) (k := 8) (x := "_law_script") (CX := fun _ => L2.CX0) (sp := fun w => Y.toSp _ Y.spLaw) rfl (by decide) rfl ⟨rfl, by decide, by decide⟩ (fun w h Y => PySem.W.kIn_of Y) ?F (fun _ _ a ns hl _ hS => Y.law_in hl hS) (fun _ _ _ _ _ h => h)
  case F =>
    intro w mg fa h KX G hmg
    refine' W.law_mk (W.tt_mk KX G ?aC0 ?pg0 ?hd0 ?po0 ?sa0 ?mk0 ?kc0 ?a1 ?i1 ?l1 ?c1 ?k1 ?a2 ?i2 ?l2 ?c2 ?k2 ?a3 ?l3 ?c3 ?k3 ?a4 ?l4 ?c4 ?k4 ?a5 ?l5 ?c5 ?k5 ?a6 ?l6 ?c6 ?k6 ?a7 ?l7 ?c7 ?k7 ?a8 ?l8 ?c8 ?k8 ?a9 ?l9 ?c9 ?k9 ?a10 ?l10 ?c10 ?k10 ?a11 ?l11 ?c11 ?k11 ?a12 ?l12 ?c12 ?k12 ?a13 ?l13 ?c13 ?k13 ?a14 ?l14 ?c14 ?k14 ?a15 ?l15 ?c15 ?k15 ?zb_bool ?zb_int ?zb_isinstance ?zb_len ?zb_list ?zb_max ?zb_min ?zb_range ?zb_str ?zb_tuple ?zn_Parts_rows) hmg
    (case aC0 => k_is); (case pg0 => k_is); (case hd0 => k_is); (case po0 => k_is); (case sa0 => k_is); (case mk0 => k_is); (case kc0 => k_is); (case a1 => k_is); (case i1 => k_is); (case l1 => k_is); (case c1 => k_is); (case k1 => k_is); (case a2 => k_is); (case i2 => k_is); (case l2 => k_is); (case c2 => k_is); (case k2 => k_is); (case a3 => k_is); (case l3 => k_is); (case c3 => k_is); (case k3 => k_is); (case a4 => k_is); (case l4 => k_is); (case c4 => k_is); (case k4 => k_is); (case a5 => k_is); (case l5 => k_is); (case c5 => k_is); (case k5 => k_is); (case a6 => k_is); (case l6 => k_is); (case c6 => k_is); (case k6 => k_is); (case a7 => k_is); (case l7 => k_is); (case c7 => k_is); (case k7 => k_is); (case a8 => k_is); (case l8 => k_is); (case c8 => k_is); (case k8 => k_is); (case a9 => k_is); (case l9 => k_is); (case c9 => k_is); (case k9 => k_is); (case a10 => k_is); (case l10 => k_is); (case c10 => k_is); (case k10 => k_is); (case a11 => k_is); (case l11 => k_is); (case c11 => k_is); (case k11 => k_is); (case a12 => k_is); (case l12 => k_is); (case c12 => k_is); (case k12 => k_is); (case a13 => k_is); (case l13 => k_is); (case c13 => k_is); (case k13 => k_is); (case a14 => k_is); (case l14 => k_is); (case c14 => k_is); (case k14 => k_is); (case a15 => k_is); (case l15 => k_is); (case c15 => k_is); (case k15 => k_is); (case zb_bool => k_is); (case zb_int => k_is); (case zb_isinstance => k_is); (case zb_len => k_is); (case zb_list => k_is); (case zb_max => k_is); (case zb_min => k_is); (case zb_range => k_is); (case zb_str => k_is); (case zb_tuple => k_is); (case zn_Parts_rows => k_is)
