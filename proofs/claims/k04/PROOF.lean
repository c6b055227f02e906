import PyProof.Rows.All
import Wide.All
import OpenK.AllK
import Wide.FinOn
import HandS.ForMost
import KE.KDictKeyed
import HandS.ExcInit
import HandS.ExcValue
import HandS.IsInst
import HandS.Flow
import HandS.Wide
import HandS.TupAny
import HandS.Style
import HandS.NoneIn
import HandS.Zip
import HandS.Rev
import PyProof.ListStr
import PyProof.CollectStr
import HandS.RevTup
import HandS.Codes
import HandS.ReplaceLit
import HandS.ReplaceList
import PyProof.StrLawsReplace
import KE.KIntText
import KE.KxText
import HandS.Exc
import HandS.ExcOwn
import HandS.ExcField
import HandS.ExcIs
import HandS.WordsExc
import OpenK.KCls
import KE.KIsAll
import KE.KTryMore
import HandS.FStr
import HandS.Strs
import HandS.SetFor
import HandS.More
import PyProof.Rows.StrJoinMade
import HandS.RevRange
import HandS.Conv
import KE.KStateDown
import HandS.Head0
import HandS.Head1
import HandS.Head2
import HandS.HeadEnd
import HandS.HeadHook1
import HandS.HeadHook2
import HandS.HeadHook3
import KE.SortData
import HandS.TupSets
import HandS.Flt
import KE.GoesZip
import KE.GoesMore
import HandS.Remove
import HandS.DeepEq
import PyProof.NeKinds
import PyProof.StrOps2
import HandS.TryOnly
import KE.KAssignIn
import KE.KIndexOf
import HandS.Defaults
import HandS.SetKeys
import KE.DataMinMax
import HandS.SortKw
import HandS.SortInts
import HandS.Set
import HandS.WordsDict
import HandS.ReplaceDef
import PyProof.P3In
import KE.GoesEnum
import PySem.Challenge.RW_rowsbeneath_k04_refusals_apart
set_option Elab.async false
set_option linter.all false
set_option maxRecDepth 100000
set_option maxHeartbeats 4000000
/-! data in trees (D), what is owned (Mu), a second reading over both -/
namespace Y
open PySem PySem.Spec PyProof.Rows L2

inductive D where
  | non | bl (b : Bool) | int (i : Int) | str (x : Str) | ty (n : String)
  /-- an object that is told elsewhere: owned, a class, or unknown -/
  | adr (a : Addr)
  | tup (ds : List D) | lst (ds : List D)
  /-- an instance that stays -/
  | obj (C : Addr) (ns : List Str) (ds : List D)
  /-- the script -/
  | scr (ns : List Int)
  /-- a tuple of which it is known that nothing else hangs on it -/
  | tun (ds : List D)
/-- what is owned: it may change -/
inductive MO where
  | lst (ds : List D)
  | dk (kvs : List (Key × D))
  | ins (C : Addr) (fs : List (Str × D))
  /-- a dict with keys of any depth -/
  | dn (P : Program) (w : World) (kvs : List (D × D))
  /-- an exception that stands as a value: its class, its fields -/
  | exc (C : Addr) (fs : List (Str × D))
  /-- an object of the hand layer, as it is told there -/
  | raw (o : HO)
abbrev Mu := Addr → Option MO
abbrev Env2 := List (Option D)
def mup (μ : Mu) (a : Addr) (m : MO) : Mu := fun b => if b = a then some m else μ b
def mdel (μ : Mu) (a : Addr) : Mu := fun b => if b = a then none else μ b
theorem mup_same {μ : Mu} {a m} : mup μ a m a = some m := by unfold mup; rw [if_pos rfl]
theorem mup_ne {μ : Mu} {a b m} (h : b ≠ a) : mup μ a m b = μ b := by unfold mup; rw [if_neg h]
theorem mdel_same {μ : Mu} {a} : mdel μ a a = none := by unfold mdel; rw [if_pos rfl]
theorem mdel_ne {μ : Mu} {a b} (h : b ≠ a) : mdel μ a b = μ b := by unfold mdel; rw [if_neg h]
theorem mdel_mup {μ : Mu} {a m} (h : μ a = none) : mdel (mup μ a m) a = μ := by
  funext b; unfold mdel mup
  by_cases e : b = a
  · subst e; rw [if_pos rfl, h]
  · rw [if_neg e, if_neg e]
theorem mup_mup {μ : Mu} {a m n} : mup (mup μ a m) a n = mup μ a n := by
  funext b; unfold mup; split <;> rfl

mutual
def Rp (K : PySem.W.Frag) (I : Hp) : D → V → Prop
  | .non, v => v = .non
  | .bl b, v => v = .bl b
  | .int i, v => v = .int i
  | .str x, v => v = .str x
  | .ty n, v => v = .ty n
  | .adr a, v => v = .ref a
  | .tup ds, v => ∃ a vs, v = .ref a ∧ SqT K I a vs ∧ RpA K I ds vs
  | .lst ds, v => ∃ a vs, v = .ref a ∧ I a = some (.lst vs) ∧ RpA K I ds vs
  | .obj C ns ds, v => ∃ a dx vs, v = .ref a ∧ I a = some (.ins C dx (ns.zip vs)) ∧ ns.length = ds.length ∧ RpA K I ds vs
  | .scr ns, v => ∃ a, v = .ref a ∧ SqL K I a (ns.map V.int)
  | .tun ds, v => ∃ a vs, v = .ref a ∧ (∃ o, I a = some (.frz o (.tup vs)) ∧ o.dict = none) ∧ RpA K I ds vs
def RpA (K : PySem.W.Frag) (I : Hp) : List D → List V → Prop
  | [], vs => vs = []
  | d :: ds, vs => ∃ v r, vs = v :: r ∧ Rp K I d v ∧ RpA K I ds r
end
mutual
/-- what is a key of any depth -/
def nkD : D → Option NestedKey
  | .non => some .none
  | .bl b => some (.num (if b = true then 1 else 0))
  | .int i => some (.num i)
  | .str x => some (.text x)
  | .tup ds => (nkA ds).map .tup
  | .tun ds => (nkA ds).map .tup
  | _ => none
def nkA : List D → Option (List NestedKey)
  | [] => some []
  | d :: ds => match nkD d, nkA ds with
    | some a, some b => some (a :: b)
    | _, _ => none
end
/-- the dict at p has these entries -/
def DnRaw (P : Program) (w : World) (p : Addr) (xs : List (NestedKey × Addr × Value)) (h : Heap) : Prop :=
  ∃ o es ep, h.get? p = some o ∧ o.ExactDict ∧ o.data = .dict es ep ∧ es.toList = xs.map (entryOfKey (nestedKind P w)) ∧ (xs.map (·.1)).Nodup
def RpN (K : PySem.W.Frag) (I : Hp) : List (D × D) → List (NestedKey × Addr × Value) → Prop := Paired fun q x => nkD q.1 = some x.1 ∧ x.1.depth ≤ 8 ∧ Rp K I q.1 (.ref x.2.1) ∧ ∃ u, Rp K I q.2 u ∧ RelV u x.2.2
def RpK (K : PySem.W.Frag) (I : Hp) : List (Key × D) → List (Key × V) → Prop := Paired fun p q => p.1 = q.1 ∧ Rp K I p.2 q.2
def RpF (K : PySem.W.Frag) (I : Hp) : List (Str × D) → List (Str × V) → Prop := Paired fun p q => p.1 = q.1 ∧ Rp K I p.2 q.2
/-- an exception object at a, of the class at C, its dict at d -/
def exg (a C : Addr) (d : Option Addr) : HO := .ext fun h => ∃ (oe : Obj) (vs : Array Value), h.get? a = some oe ∧ Zc (.ref C) d oe ∧ oe.data = .fields vs
def ExH (a C : Addr) (d : Option Addr) (o : HO) : Prop := o = exo a C d ∨ (d = none ∧ o = ExO (.ref C) a) ∨ o = exg a C d
def ExD (I : Hp) (d : Option Addr) (hfs : List (Str × V)) : Prop := (d = none ∧ hfs = []) ∨ ∃ dx, d = some dx ∧ (I dx = some (exd dx hfs) ∨ I dx = some (.xd hfs))
def RpO (K : PySem.W.Frag) (I : Hp) (p : Addr) : MO → HO → Prop
  | .lst ds, o => ∃ vs, o = .lst vs ∧ RpA K I ds vs
  | .dk kvs, o => ∃ hvs, o = .dK hvs ∧ RpK K I kvs hvs
  | .ins C fs, o => ∃ dx hfs, o = .ins C dx hfs ∧ RpF K I fs hfs
  | .dn P w kvs, o => (p == sysModules) = false ∧ ∃ xs, o = .ext (DnRaw P w p xs) ∧ RpN K I kvs xs
  | .exc C fs, o => ∃ d hfs, ExH p C d o ∧ RpF K I fs hfs ∧ ExD I d hfs
  | .raw o', o => o = o' ∧ ∀ fs, o ≠ .xd fs

def Exx (H H' : Hp) : Prop := ∀ a o, H a = some o → H' a = some o
theorem Exx.refl (H : Hp) : Exx H H := fun _ _ h => h
theorem Exx.trans {H H1 H2 : Hp} (a : Exx H H1) (b : Exx H1 H2) : Exx H H2 := fun x o h => b x o (a x o h)
theorem Exx.rd {H H' : Hp} {a : Addr} {u : HO} (e : Exx H H') (h : Rd H a u) : Rd H' a u := by
  rcases h with h | ⟨o, h⟩
  · exact .inl (e a _ h)
  · exact .inr ⟨o, e a _ h⟩
theorem Exx.sqt {K : PySem.W.Frag} {H H' : Hp} {a : Addr} {xs : List V} (e : Exx H H') (h : SqT K H a xs) : SqT K H' a xs := by
  rcases h with h | h
  · exact .inl (e.rd h)
  · exact .inr h
theorem Exx.sql {K : PySem.W.Frag} {H H' : Hp} {a : Addr} {xs : List V} (e : Exx H H') (h : SqL K H a xs) : SqL K H' a xs := by
  rcases h with h | h
  · exact .inl (e.rd h)
  · exact .inr h
theorem Exx.new {H : Hp} {p : Addr} {o : HO} (h : H p = none) : Exx H (upd H p o) := fun a u e => by
  rw [upd_ne (ne_of_none e h)]; exact e
section
variable {K : PySem.W.Frag} {I I' : Hp}
mutual
theorem Rp.mono (e : Exx I I') : ∀ {d : D} {v : V}, Rp K I d v → Rp K I' d v
  | .non, _, h => h
  | .bl _, _, h => h
  | .int _, _, h => h
  | .str _, _, h => h
  | .ty _, _, h => h
  | .adr _, _, h => h
  | .tup ds, _, h => by
    obtain ⟨a, vs, h1, h2, h3⟩ := h
    exact ⟨a, vs, h1, e.sqt h2, RpA.mono e h3⟩
  | .lst ds, _, h => by
    obtain ⟨a, vs, h1, h2, h3⟩ := h
    exact ⟨a, vs, h1, e _ _ h2, RpA.mono e h3⟩
  | .obj C ns ds, _, h => by
    obtain ⟨a, dx, vs, h1, h2, h4, h3⟩ := h
    exact ⟨a, dx, vs, h1, e _ _ h2, h4, RpA.mono e h3⟩
  | .scr ns, _, h => by
    obtain ⟨a, h1, h2⟩ := h
    exact ⟨a, h1, e.sql h2⟩
  | .tun ds, _, h => by
    obtain ⟨a, vs, h1, ⟨o, h2, h4⟩, h3⟩ := h
    exact ⟨a, vs, h1, ⟨o, e _ _ h2, h4⟩, RpA.mono e h3⟩
theorem RpA.mono (e : Exx I I') : ∀ {ds : List D} {vs : List V}, RpA K I ds vs → RpA K I' ds vs
  | [], _, h => h
  | d :: ds, _, h => by
    obtain ⟨v, r, h1, h2, h3⟩ := h
    exact ⟨v, r, h1, Rp.mono e h2, RpA.mono e h3⟩
end
theorem RpK.mono (e : Exx I I') {kvs : List (Key × D)} {hvs : List (Key × V)} (h : RpK K I kvs hvs) : RpK K I' kvs hvs := Paired.mapP h fun _ _ q => ⟨q.1, Rp.mono e q.2⟩
theorem RpF.mono (e : Exx I I') {kvs : List (Str × D)} {hvs : List (Str × V)} (h : RpF K I kvs hvs) : RpF K I' kvs hvs := Paired.mapP h fun _ _ q => ⟨q.1, Rp.mono e q.2⟩
theorem RpN.mono (e : Exx I I') {kvs : List (D × D)} {xs : List (NestedKey × Addr × Value)} (h : RpN K I kvs xs) : RpN K I' kvs xs := Paired.mapP h fun _ _ q => ⟨q.1, q.2.1, Rp.mono e q.2.2.1, let ⟨u, a, b⟩ := q.2.2.2; ⟨u, Rp.mono e a, b⟩⟩
theorem RpO.mono (e : Exx I I') {p : Addr} {m : MO} {o : HO} (h : RpO K I p m o) : RpO K I' p m o := by
  cases m with
  | lst ds => obtain ⟨vs, h1, h2⟩ := h; exact ⟨vs, h1, RpA.mono e h2⟩
  | dk kvs => obtain ⟨vs, h1, h2⟩ := h; exact ⟨vs, h1, RpK.mono e h2⟩
  | ins C fs => obtain ⟨dx, vs, h1, h2⟩ := h; exact ⟨dx, vs, h1, RpF.mono e h2⟩
  | dn P w kvs => obtain ⟨hs, xs, h1, h2⟩ := h; exact ⟨hs, xs, h1, RpN.mono e h2⟩
  | exc C fs =>
    obtain ⟨d, hfs, h1, h2, h3⟩ := h
    refine ⟨d, hfs, h1, RpF.mono e h2, ?_⟩
    rcases h3 with h3 | ⟨dx, h3, h4⟩
    · exact .inl h3
    · exact .inr ⟨dx, h3, h4.elim (fun z => .inl (e _ _ z)) fun z => .inr (e _ _ z)⟩
  | raw o' => exact h
theorem RpO.noXd {p : Addr} {m : MO} {fs : List (Str × V)} (h : RpO K I p m (.xd fs)) : False := by
  cases m with
  | lst _ => obtain ⟨_, e, _⟩ := h; cases e
  | dk _ => obtain ⟨_, e, _⟩ := h; cases e
  | ins _ _ => obtain ⟨_, _, e, _⟩ := h; cases e
  | dn _ _ _ => obtain ⟨_, _, e, _⟩ := h; cases e
  | exc _ _ =>
    obtain ⟨_, _, e, _⟩ := h
    rcases e with e | ⟨_, e⟩ | e
    · unfold exo at e; cases e
    · unfold ExO at e; cases e
    · unfold exg at e; cases e
  | raw o => exact h.2 _ rfl
theorem RpA.length : ∀ {ds : List D} {vs : List V}, RpA K I ds vs → vs.length = ds.length
  | [], _, h => by cases h; rfl
  | d :: ds, _, h => by
    obtain ⟨v, r, rfl, _, h3⟩ := h
    show r.length + 1 = ds.length + 1
    rw [RpA.length h3]
theorem RpA.get : ∀ {ds : List D} {vs : List V} {i : Nat} {d : D}, RpA K I ds vs → ds[i]? = some d → ∃ v, vs[i]? = some v ∧ Rp K I d v
  | [], _, _, _, _, e => by simp at e
  | d :: ds, _, 0, _, h, e => by
    obtain ⟨v, r, rfl, h2, _⟩ := h
    simp at e; subst e
    exact ⟨v, rfl, h2⟩
  | d :: ds, _, i + 1, d', h, e => by
    obtain ⟨v, r, rfl, _, h3⟩ := h
    obtain ⟨v', e1, e2⟩ := RpA.get (i := i) (d := d') h3 (by simpa using e)
    exact ⟨v', by simpa using e1, e2⟩
theorem RpA.append : ∀ {ds es : List D} {vs us : List V}, RpA K I ds vs → RpA K I es us → RpA K I (ds ++ es) (vs ++ us)
  | [], _, _, _, h, g => by cases h; exact g
  | d :: ds, _, _, _, h, g => by
    obtain ⟨v, r, rfl, h2, h3⟩ := h
    exact ⟨v, _, rfl, h2, RpA.append h3 g⟩
theorem RpA.one {d : D} {v : V} (h : Rp K I d v) : RpA K I [d] [v] := ⟨v, [], rfl, h, rfl⟩
theorem RpA.cons {d : D} {v : V} {ds : List D} {vs : List V} (h : Rp K I d v) (h' : RpA K I ds vs) : RpA K I (d :: ds) (v :: vs) := ⟨v, vs, rfl, h, h'⟩
theorem RpA.take : ∀ {ds : List D} {vs : List V} (n : Nat), RpA K I ds vs → RpA K I (ds.take n) (vs.take n)
  | _, _, 0, _ => by simp [RpA]
  | [], _, _ + 1, h => by cases h; simp [RpA]
  | d :: ds, _, n + 1, h => by
    obtain ⟨v, r, rfl, h2, h3⟩ := h
    exact ⟨v, _, rfl, h2, RpA.take n h3⟩
theorem RpA.drop : ∀ {ds : List D} {vs : List V} (n : Nat), RpA K I ds vs → RpA K I (ds.drop n) (vs.drop n)
  | _, _, 0, h => h
  | [], _, _ + 1, h => by cases h; simp [RpA]
  | d :: ds, _, n + 1, h => by
    obtain ⟨v, r, rfl, h2, h3⟩ := h
    exact RpA.drop n h3
theorem RpA.set : ∀ {ds : List D} {vs : List V} {d : D} {v : V} (n : Nat), RpA K I ds vs → Rp K I d v → RpA K I (ds.set n d) (vs.set n v)
  | [], _, _, _, _, h, _ => by cases h; simp [RpA]
  | d :: ds, _, _, _, 0, h, g => by
    obtain ⟨v, r, rfl, h2, h3⟩ := h
    exact ⟨_, _, rfl, g, h3⟩
  | d :: ds, _, _, _, n + 1, h, g => by
    obtain ⟨v, r, rfl, h2, h3⟩ := h
    exact ⟨_, _, rfl, h2, RpA.set n h3 g⟩
theorem RpA.reverse : ∀ {ds : List D} {vs : List V}, RpA K I ds vs → RpA K I ds.reverse vs.reverse
  | [], _, h => by cases h; simp [RpA]
  | d :: ds, _, h => by
    obtain ⟨v, r, rfl, h2, h3⟩ := h
    rw [List.reverse_cons, List.reverse_cons]
    exact RpA.append (RpA.reverse h3) (RpA.one h2)
theorem RpA.ints : ∀ (ns : List Int), RpA K I (ns.map D.int) (ns.map V.int)
  | [] => rfl
  | _ :: ns => ⟨_, _, rfl, rfl, RpA.ints ns⟩
theorem RpA.ints_inv : ∀ {ns : List Int} {vs : List V}, RpA K I (ns.map D.int) vs → vs = ns.map V.int
  | [], _, h => h
  | _ :: ns, _, h => by
    obtain ⟨v, r, rfl, h2, h3⟩ := h
    have e : v = _ := h2
    rw [e, RpA.ints_inv h3]; rfl
theorem RpA.strs : ∀ (ns : List Str), RpA K I (ns.map D.str) (ns.map V.str)
  | [] => rfl
  | _ :: ns => ⟨_, _, rfl, rfl, RpA.strs ns⟩
theorem RpA.strs_inv : ∀ {ns : List Str} {vs : List V}, RpA K I (ns.map D.str) vs → vs = ns.map V.str
  | [], _, h => h
  | _ :: ns, _, h => by
    obtain ⟨v, r, rfl, h2, h3⟩ := h
    have e : v = _ := h2
    rw [e, RpA.strs_inv h3]; rfl
theorem RpA.bls_inv : ∀ {ns : List Bool} {vs : List V}, RpA K I (ns.map D.bl) vs → vs = ns.map V.bl
  | [], _, h => h
  | _ :: ns, _, h => by
    obtain ⟨v, r, rfl, h2, h3⟩ := h
    have e : v = _ := h2
    rw [e, RpA.bls_inv h3]; rfl
end

/-- what a piece of code leaves -/
structure Kp (I : Hp) (μ : Mu) (H I' : Hp) (μ' : Mu) (H' : Hp) : Prop where
  ex : Exx I I'
  fr : ∀ a o, H a = some o → I a = none → μ a = none → H' a = some o ∧ I' a = none ∧ μ' a = none
/-- what is known of how things came here -/
class Jx where
  J : Hp → Mu → Hp → Prop
  step : ∀ {I μ H I' μ' H'}, J I μ H → Kp I μ H I' μ' H' → J I' μ' H'
abbrev Jx.triv : Jx := ⟨fun _ _ _ => True, fun _ _ => trivial⟩
/-- what is known of the heap: I stays, μ is owned -/
structure At0 (K : PySem.W.Frag) (μ : Mu) (I H : Hp) : Prop where
  sub : ∀ a o, I a = some o → H a = some o
  own : ∀ a m, μ a = some m → I a = none ∧ ∃ o, H a = some o ∧ RpO K I a m o
structure At [Jx] (K : PySem.W.Frag) (μ : Mu) (I H : Hp) : Prop extends At0 K μ I H where
  j : Jx.J I μ H
theorem At0.triv {K : PySem.W.Frag} {μ : Mu} {I H : Hp} (a : At0 K μ I H) : @At Jx.triv K μ I H := @At.mk Jx.triv _ _ _ _ a trivial
def Slots (K : PySem.W.Frag) (I : Hp) (ρ : Env2) (σ : L2.St) : Prop :=
  ρ.length = σ.length ∧ ∀ (i : Nat) (d : D), ρ[i]? = some (some d) → ∃ v, σ[i]? = some (some v) ∧ Rp K I d v
section
variable {K : PySem.W.Frag} {I I' I1 I2 H H' H1 H2 : Hp} {μ μ' μ1 μ2 : Mu} {ρ : Env2} {σ : L2.St}
theorem Kp.refl : Kp I μ H I μ H := ⟨Exx.refl _, fun _ _ a b c => ⟨a, b, c⟩⟩
theorem Kp.trans (a : Kp I μ H I1 μ1 H1) (b : Kp I1 μ1 H1 I2 μ2 H2) : Kp I μ H I2 μ2 H2 :=
  ⟨a.ex.trans b.ex, fun x o h1 h2 h3 => let ⟨p, q, r⟩ := a.fr x o h1 h2 h3; b.fr x o p q r⟩
theorem Slots.mono (e : Exx I I') (h : Slots K I ρ σ) : Slots K I' ρ σ := ⟨h.1, fun i d q => let ⟨v, a, b⟩ := h.2 i d q; ⟨v, a, b.mono e⟩⟩
theorem Slots.set {d : D} {v : V} (i : Nat) (h : Slots K I ρ σ) (r : Rp K I d v) : Slots K I (ρ.set i (some d)) (σ.set i (some v)) := by
  refine ⟨by rw [List.length_set, List.length_set]; exact h.1, fun j e q => ?_⟩
  by_cases hj : i = j
  · subst hj
    by_cases hl : i < ρ.length
    · rw [List.getElem?_set_self hl] at q
      cases q
      exact ⟨v, List.getElem?_set_self (by rw [← h.1]; exact hl), r⟩
    · rw [List.getElem?_eq_none_iff.mpr (by rw [List.length_set]; omega)] at q
      cases q
  · rw [List.getElem?_set_ne hj] at q ⊢
    exact h.2 j e q
/-- a new object that stays -/
theorem At0.laid {p : Addr} {o : HO} (a : At0 K μ I H) (hp : H p = none) : At0 K μ (upd I p o) (upd H p o) := by
  have hI : I p = none := by
    cases q : I p with
    | none => rfl
    | some u => rw [a.sub p u q] at hp; cases hp
  refine ⟨fun b u e => ?_, fun b m e => ?_⟩
  · by_cases hb : b = p
    · subst hb; rw [upd_same] at e ⊢; exact e
    · rw [upd_ne hb] at e ⊢; exact a.sub b u e
  · obtain ⟨h1, u, h2, h3⟩ := a.own b m e
    have hb : b ≠ p := fun z => by rw [z, hp] at h2; cases h2
    exact ⟨by rw [upd_ne hb]; exact h1, u, by rw [upd_ne hb]; exact h2, h3.mono (Exx.new hI)⟩
theorem At0.noI {p : Addr} (a : At0 K μ I H) (hp : H p = none) : I p = none := by
  cases q : I p with
  | none => rfl
  | some u => rw [a.sub p u q] at hp; cases hp
theorem At0.noM {p : Addr} (a : At0 K μ I H) (hp : H p = none) : μ p = none := by
  cases q : μ p with
  | none => rfl
  | some m => obtain ⟨_, u, e, _⟩ := a.own p m q; rw [hp] at e; cases e
theorem Kp.laid {p : Addr} {o : HO} (hp : H p = none) (hI : I p = none) : Kp I μ H (upd I p o) μ (upd H p o) :=
  ⟨Exx.new hI, fun b u e h1 h2 => by
    have hb : b ≠ p := fun z => by rw [z, hp] at e; cases e
    exact ⟨by rw [upd_ne hb]; exact e, by rw [upd_ne hb]; exact h1, h2⟩⟩
/-- a new object that is owned -/
theorem At0.got {p : Addr} {o : HO} {m : MO} (a : At0 K μ I H) (hp : H p = none) (r : RpO K I p m o) : At0 K (mup μ p m) I (upd H p o) := by
  have hI : I p = none := a.noI hp
  refine ⟨fun b u e => ?_, fun b n e => ?_⟩
  · rw [upd_ne (ne_of_none e hI)]; exact a.sub b u e
  · by_cases hb : b = p
    · subst hb
      rw [mup_same] at e; cases e
      exact ⟨hI, o, upd_same, r⟩
    · rw [mup_ne hb] at e
      obtain ⟨h1, u, h2, h3⟩ := a.own b n e
      exact ⟨h1, u, by rw [upd_ne hb]; exact h2, h3⟩
theorem Kp.got {p : Addr} {o : HO} {m : MO} (hp : H p = none) : Kp I μ H I (mup μ p m) (upd H p o) :=
  ⟨Exx.refl _, fun b u e h1 h2 => by
    have hb : b ≠ p := fun z => by rw [z, hp] at e; cases e
    exact ⟨by rw [upd_ne hb]; exact e, h1, by rw [mup_ne hb]; exact h2⟩⟩
/-- an owned object changed -/
theorem At0.put {p : Addr} {o : HO} {m m' : MO} (a : At0 K μ I H) (hp : μ p = some m') (r : RpO K I p m o) : At0 K (mup μ p m) I (upd H p o) := by
  obtain ⟨hI, _⟩ := a.own p m' hp
  refine ⟨fun b u e => ?_, fun b n e => ?_⟩
  · rw [upd_ne (ne_of_none e hI)]; exact a.sub b u e
  · by_cases hb : b = p
    · subst hb
      rw [mup_same] at e; cases e
      exact ⟨hI, o, upd_same, r⟩
    · rw [mup_ne hb] at e
      obtain ⟨h1, u, h2, h3⟩ := a.own b n e
      exact ⟨h1, u, by rw [upd_ne hb]; exact h2, h3⟩
theorem Kp.put {p : Addr} {o : HO} {m m' : MO} (hp : μ p = some m') : Kp I μ H I (mup μ p m) (upd H p o) :=
  ⟨Exx.refl _, fun b u e h1 h2 => by
    have hb : b ≠ p := fun z => by rw [z, hp] at h2; cases h2
    exact ⟨by rw [upd_ne hb]; exact e, h1, by rw [mup_ne hb]; exact h2⟩⟩
/-- less is owned -/
theorem At0.less (a : At0 K μ I H) (h : ∀ b m, μ' b = some m → μ b = some m) : At0 K μ' I H := ⟨a.sub, fun b m e => a.own b m (h b m e)⟩
theorem Kp.less (h : ∀ b m, μ' b = some m → μ b = some m) : Kp I μ H I μ' H :=
  ⟨Exx.refl _, fun b o e h1 h2 => ⟨e, h1, by
    cases q : μ' b with
    | none => rfl
    | some m => rw [h b m q] at h2; cases h2⟩⟩
/-- an owned list stays from now on -/
theorem At0.frz {p : Addr} {o : HO} {m : MO} (a : At0 K μ I H) (hp : μ p = some m) (ho : H p = some o) : At0 K (mdel μ p) (upd I p o) H := by
  obtain ⟨hI, _⟩ := a.own p m hp
  refine ⟨fun b u e => ?_, fun b n e => ?_⟩
  · by_cases hb : b = p
    · subst hb; rw [upd_same] at e; cases e; exact ho
    · rw [upd_ne hb] at e; exact a.sub b u e
  · by_cases hb : b = p
    · subst hb; rw [mdel_same] at e; cases e
    · rw [mdel_ne hb] at e
      obtain ⟨h1, u, h2, h3⟩ := a.own b n e
      exact ⟨by rw [upd_ne hb]; exact h1, u, h2, h3.mono (Exx.new hI)⟩
theorem Kp.frz {p : Addr} {o : HO} {m : MO} (hp : μ p = some m) (hI : I p = none) : Kp I μ H (upd I p o) (mdel μ p) H :=
  ⟨Exx.new hI, fun b u e h1 h2 => by
    have hb : b ≠ p := fun z => by rw [z, hp] at h2; cases h2
    exact ⟨e, by rw [upd_ne hb]; exact h1, by rw [mdel_ne hb]; exact h2⟩⟩
theorem Kp.j [Jx] (k : Kp I μ H I' μ' H') (a : At K μ I H) : Jx.J I' μ' H' := Jx.step a.j k
theorem At0.up [Jx] (a : At0 K μ' I' H') (b : At K μ I H) (k : Kp I μ H I' μ' H') : At K μ' I' H' := ⟨a, Jx.step b.j k⟩
theorem At.noI [Jx] {p : Addr} (a : At K μ I H) (hp : H p = none) : I p = none := a.toAt0.noI hp
theorem At.noM [Jx] {p : Addr} (a : At K μ I H) (hp : H p = none) : μ p = none := a.toAt0.noM hp
theorem At.laid [Jx] {p : Addr} {o : HO} (a : At K μ I H) (hp : H p = none) : At K μ (upd I p o) (upd H p o) := ⟨a.toAt0.laid hp, Jx.step a.j (Kp.laid hp (a.noI hp))⟩
theorem At.got [Jx] {p : Addr} {o : HO} {m : MO} (a : At K μ I H) (hp : H p = none) (r : RpO K I p m o) : At K (mup μ p m) I (upd H p o) := ⟨a.toAt0.got hp r, Jx.step a.j (Kp.got hp)⟩
theorem At.put [Jx] {p : Addr} {o : HO} {m m' : MO} (a : At K μ I H) (hp : μ p = some m') (r : RpO K I p m o) : At K (mup μ p m) I (upd H p o) := ⟨a.toAt0.put hp r, Jx.step a.j (Kp.put hp)⟩
theorem At.less [Jx] (a : At K μ I H) (h : ∀ b m, μ' b = some m → μ b = some m) : At K μ' I H := ⟨a.toAt0.less h, Jx.step a.j (Kp.less h)⟩
theorem At.frz [Jx] {p : Addr} {o : HO} {m : MO} (a : At K μ I H) (hp : μ p = some m) (ho : H p = some o) : At K (mdel μ p) (upd I p o) H := ⟨a.toAt0.frz hp ho, Jx.step a.j (Kp.frz hp (a.own p m hp).1)⟩
end

/-! ### the second readings -/
abbrev DK := D → Mu → Prop
abbrev TE2 := Env2 → Mu → DK → Prop
abbrev TT2 := Env2 → Mu → (Mu → Prop) → (Mu → Prop) → Prop
abbrev TA2 := Env2 → Mu → (List D → Mu → Prop) → Prop
structure Ends2 where
  nx : Env2 → Mu → Prop
  rt : DK
  bk : Env2 → Mu → Prop := fun _ _ => False
  ct : Env2 → Mu → Prop := fun _ _ => False
abbrev TS2 := Ends2 → Env2 → Mu → Prop
/-- what follows an expression -/
def Go [Jx] (K : PySem.W.Frag) (I : Hp) (μ : Mu) (H : Hp) (Q2 : DK) (Q : VK) : Prop :=
  ∀ d μ' v I' H', Q2 d μ' → At K μ' I' H' → Kp I μ H I' μ' H' → Rp K I' d v → Q v H'
def GoA [Jx] (K : PySem.W.Frag) (I : Hp) (μ : Mu) (H : Hp) (Q2 : List D → Mu → Prop) (Q : List V → Hp → Prop) : Prop :=
  ∀ ds μ' vs I' H', Q2 ds μ' → At K μ' I' H' → Kp I μ H I' μ' H' → RpA K I' ds vs → Q vs H'
def GoU [Jx] (K : PySem.W.Frag) (I : Hp) (μ : Mu) (H : Hp) (Q2 : Mu → Prop) (Q : Hp → Prop) : Prop :=
  ∀ μ' I' H', Q2 μ' → At K μ' I' H' → Kp I μ H I' μ' H' → Q H'
def GoE [Jx] (K : PySem.W.Frag) (I : Hp) (μ : Mu) (H : Hp) (Q2 : Env2 → Mu → Prop) (Q : L2.St → Hp → Prop) : Prop :=
  ∀ ρ' μ' σ' I' H', Q2 ρ' μ' → At K μ' I' H' → Slots K I' ρ' σ' → Kp I μ H I' μ' H' → Q σ' H'
def RE [Jx] (K : PySem.W.Frag) (te : TE) (t : TE2) : Prop :=
  ∀ ρ μ Q2, t ρ μ Q2 → ∀ I σ H, At K μ I H → Slots K I ρ σ → ∀ Q : VK, Go K I μ H Q2 Q → te σ H Q
def RT [Jx] (K : PySem.W.Frag) (tt : TT) (t : TT2) : Prop :=
  ∀ ρ μ T F, t ρ μ T F → ∀ I σ H, At K μ I H → Slots K I ρ σ → ∀ Q : Bool → Hp → Prop, GoU K I μ H T (Q true) → GoU K I μ H F (Q false) → tt σ H Q
def RA [Jx] (K : PySem.W.Frag) (ta : TA) (t : TA2) : Prop :=
  ∀ ρ μ Q2, t ρ μ Q2 → ∀ I σ H, At K μ I H → Slots K I ρ σ → ∀ Q : List V → Hp → Prop, GoA K I μ H Q2 Q → ta σ H Q
structure GoS [Jx] (K : PySem.W.Frag) (I : Hp) (μ : Mu) (H : Hp) (D2 : Ends2) (D : Ends) : Prop where
  nx : GoE K I μ H D2.nx D.nx
  rt : Go K I μ H D2.rt D.rt
  bk : GoE K I μ H D2.bk D.bk
  ct : GoE K I μ H D2.ct D.ct
def RS [Jx] (K : PySem.W.Frag) (ts : TS) (t : TS2) : Prop :=
  ∀ D2 ρ μ, t D2 ρ μ → ∀ I σ H, At K μ I H → Slots K I ρ σ → ∀ D : Ends, GoS K I μ H D2 D → ts D σ H
section
variable {K : PySem.W.Frag} {I I1 H H1 : Hp} {μ μ1 : Mu}
theorem Go.past [Jx] {Q2 : DK} {Q : VK} (g : Go K I μ H Q2 Q) (k : Kp I μ H I1 μ1 H1) : Go K I1 μ1 H1 Q2 Q := fun d μ' v I' H' q a k' r => g d μ' v I' H' q a (k.trans k') r
theorem GoU.past [Jx] {Q2 : Mu → Prop} {Q : Hp → Prop} (g : GoU K I μ H Q2 Q) (k : Kp I μ H I1 μ1 H1) : GoU K I1 μ1 H1 Q2 Q := fun μ' I' H' q a k' => g μ' I' H' q a (k.trans k')
theorem GoA.past [Jx] {Q2 : List D → Mu → Prop} {Q : List V → Hp → Prop} (g : GoA K I μ H Q2 Q) (k : Kp I μ H I1 μ1 H1) : GoA K I1 μ1 H1 Q2 Q := fun d μ' v I' H' q a k' r => g d μ' v I' H' q a (k.trans k') r
theorem GoE.past [Jx] {Q2 : Env2 → Mu → Prop} {Q : L2.St → Hp → Prop} (g : GoE K I μ H Q2 Q) (k : Kp I μ H I1 μ1 H1) : GoE K I1 μ1 H1 Q2 Q := fun ρ' μ' σ' I' H' q a s k' => g ρ' μ' σ' I' H' q a s (k.trans k')
theorem GoS.past [Jx] {D2 : Ends2} {D : Ends} (g : GoS K I μ H D2 D) (k : Kp I μ H I1 μ1 H1) : GoS K I1 μ1 H1 D2 D := ⟨g.nx.past k, g.rt.past k, g.bk.past k, g.ct.past k⟩
/-- the same with nothing known of how things came here -/
def Go0 (K : PySem.W.Frag) (I : Hp) (μ : Mu) (H : Hp) (Q2 : DK) (Q : VK) : Prop := ∀ d μ' v I' H', Q2 d μ' → At0 K μ' I' H' → Kp I μ H I' μ' H' → Rp K I' d v → Q v H'
def GoU0 (K : PySem.W.Frag) (I : Hp) (μ : Mu) (H : Hp) (Q2 : Mu → Prop) (Q : Hp → Prop) : Prop := ∀ μ' I' H', Q2 μ' → At0 K μ' I' H' → Kp I μ H I' μ' H' → Q H'
theorem Go0.t {Q2 : DK} {Q : VK} (g : Go0 K I μ H Q2 Q) : @Go Jx.triv K I μ H Q2 Q := fun d μ' v I' H' q a k r => g d μ' v I' H' q (@At.toAt0 Jx.triv _ _ _ _ a) k r
theorem GoU0.t {Q2 : Mu → Prop} {Q : Hp → Prop} (g : GoU0 K I μ H Q2 Q) : @GoU Jx.triv K I μ H Q2 Q := fun μ' I' H' q a k => g μ' I' H' q (@At.toAt0 Jx.triv _ _ _ _ a) k
theorem Go.low [Jx] {Q2 : DK} {Q : VK} (g : Go K I μ H Q2 Q) (hA : At K μ I H) : Go0 K I μ H Q2 Q := fun d μ' v I' H' q a k r => g d μ' v I' H' q (a.up hA k) k r
theorem GoU.low [Jx] {Q2 : Mu → Prop} {Q : Hp → Prop} (g : GoU K I μ H Q2 Q) (hA : At K μ I H) : GoU0 K I μ H Q2 Q := fun μ' I' H' q a k => g μ' I' H' q (a.up hA k) k
end

structure PE2 [Jx] (X : Cx) (e : Expr) (te : TE) (t : TE2) : Prop where
  pe : PE X e te
  re : RE X.K te t
structure PT2 [Jx] (X : Cx) (e : Expr) (tt : TT) (t : TT2) : Prop where
  pt : PT X e tt
  re : RT X.K tt t
structure PW2 [Jx] (X : Cx) (e : Expr) (tt : TT) (t : TT2) : Prop where
  pw : PW X e tt
  re : RT X.K tt t
structure PTs2 [Jx] (X : Cx) (es : List Expr) (tt : TT) (t : TT2) : Prop where
  pt : PTs X es tt
  re : RT X.K tt t
structure PA2 [Jx] (X : Cx) (es : List Expr) (ta : TA) (t : TA2) : Prop where
  pa : PA X es ta
  re : RA X.K ta t
structure PS2 [Jx] (X : Cx) (st : Stmt) (ts : TS) (t : TS2) : Prop where
  ps : PS X st ts
  re : RS X.K ts t
structure PSs2 [Jx] (X : Cx) (st : List Stmt) (ts : TS) (t : TS2) : Prop where
  ps : PSs X st ts
  re : RS X.K ts t
end Y

set_option Elab.async false
set_option linter.all false
set_option maxRecDepth 100000
set_option maxHeartbeats 4000000
namespace Y
open PySem PySem.Spec PyProof.Rows L2
/-- a branch -/
def Br (b : Bool) (T F : Prop) : Prop := (b = true → T) ∧ (b = false → F)
theorem Br.go {b : Bool} {T F T' F' : Prop} (h : Br b T F) (t : T → T') (f : F → F') : Br b T' F' := ⟨fun e => t (h.1 e), fun e => f (h.2 e)⟩
theorem Br.ite {b : Bool} {T F : Prop} (h : Br b T F) : if b = true then T else F := by
  cases b with
  | true => rw [if_pos rfl]; exact h.1 rfl
  | false => rw [if_neg Bool.false_ne_true]; exact h.2 rfl
/-- a list: owned, or one that stays -/
def asL (μ : Mu) : D → Option (List D)
  | .lst ds => some ds
  | .adr a => match μ a with
    | some (.lst ds) => some ds
    | _ => none
  | _ => none
/-- a list or a tuple -/
def asS (μ : Mu) : D → Option (List D)
  | .tup ds => some ds
  | .tun ds => some ds
  | d => asL μ d
section
variable {K : PySem.W.Frag} {I H : Hp} {μ : Mu}
theorem asL_at [Jx] {d : D} {v : V} {ds : List D} (a : At K μ I H) (r : Rp K I d v) (h : asL μ d = some ds) : ∃ p vs, v = .ref p ∧ H p = some (.lst vs) ∧ RpA K I ds vs := by
  cases d with
  | lst es =>
    cases (show some es = some ds from h)
    obtain ⟨p, vs, e, h1, h2⟩ := r
    exact ⟨p, vs, e, a.sub _ _ h1, h2⟩
  | adr p =>
    cases q : μ p with
    | none => simp [asL, q] at h
    | some m =>
      cases m with
      | lst es =>
        have e : es = ds := by simpa [asL, q] using h
        subst e
        obtain ⟨_, o, ho, vs, rfl, hr⟩ := a.own p _ q
        exact ⟨p, vs, r, ho, hr⟩
      | dk _ => simp [asL, q] at h
      | ins _ _ => simp [asL, q] at h
      | dn _ _ _ => simp [asL, q] at h
      | exc _ _ => simp [asL, q] at h
      | raw _ => simp [asL, q] at h
  | non => cases h
  | bl _ => cases h
  | int _ => cases h
  | str _ => cases h
  | ty _ => cases h
  | tup _ => cases h
  | obj _ _ _ => cases h
  | scr _ => cases h
  | tun _ => cases h
theorem asS_at [Jx] {d : D} {v : V} {ds : List D} (a : At K μ I H) (r : Rp K I d v) (h : asS μ d = some ds) : ∃ p vs, v = .ref p ∧ (SqL K H p vs ∨ SqT K H p vs) ∧ RpA K I ds vs := by
  cases d with
  | tup es =>
    cases (show some es = some ds from h)
    obtain ⟨p, vs, e, h1, h2⟩ := r
    exact ⟨p, vs, e, .inr ((show Exx I H from a.sub).sqt h1), h2⟩
  | tun es =>
    cases (show some es = some ds from h)
    obtain ⟨p, vs, e, ⟨o, h1, _⟩, h2⟩ := r
    exact ⟨p, vs, e, .inr (.inl (.inr ⟨o, a.sub _ _ h1⟩)), h2⟩
  | lst es => obtain ⟨p, vs, e, h1, h2⟩ := asL_at a r h; exact ⟨p, vs, e, .inl (SqL.of h1), h2⟩
  | adr p => obtain ⟨p, vs, e, h1, h2⟩ := asL_at a r h; exact ⟨p, vs, e, .inl (SqL.of h1), h2⟩
  | non => cases h
  | bl _ => cases h
  | int _ => cases h
  | str _ => cases h
  | ty _ => cases h
  | obj _ _ _ => cases h
  | scr _ => cases h
end

/-! ### names, constants -/
section
variable {X : Cx} {K : PySem.W.Frag} {a b c e : Expr} {es rest : List Expr} {ta tb tc te : TE} {ta2 tb2 tc2 te2 : TE2} {pos : Pos} {tt tu : TT} {tt2 tu2 : TT2} {tl : TA} {tl2 : TA2}
def dVar (i : Nat) : TE2 := fun ρ μ Q => ∃ d, ρ[i]? = some (some d) ∧ Q d μ
def dC (d : D) : TE2 := fun _ μ Q => Q d μ
theorem w_var {i : Nat} {ρ : Env2} {μ : Mu} {Q : DK} {d : D} (h : ρ[i]? = some (some d)) (q : Q d μ) : dVar i ρ μ Q := ⟨d, h, q⟩
theorem w_c {d : D} {ρ : Env2} {μ : Mu} {Q : DK} (q : Q d μ) : dC d ρ μ Q := q
theorem e_pv [Jx] (i : Nat) (h : PE X e (tVar i)) : PE2 X e (tVar i) (dVar i) := ⟨h, fun ρ μ Q2 q I σ H hA hS Q g => by
  obtain ⟨d, h1, h2⟩ := q
  obtain ⟨v, e1, e2⟩ := hS.2 i d h1
  exact ⟨v, e1, g d μ v I H h2 hA Kp.refl e2⟩⟩
theorem e_cst [Jx] {v : V} {d : D} (h : PE X e (tC v)) (r : ∀ I, Rp X.K I d v) : PE2 X e (tC v) (dC d) := ⟨h, fun ρ μ Q2 q I σ H hA hS Q g => g d μ v I H q hA Kp.refl (r I)⟩
theorem e_int [Jx] {i : Int} {j} : PE2 X (.Constant (.int i) j pos) (tC (.int i)) (dC (.int i)) := e_cst pe_int fun _ => rfl
theorem e_bl [Jx] {b j} : PE2 X (.Constant (.bool b) j pos) (tC (.bl b)) (dC (.bl b)) := e_cst pe_bl fun _ => rfl
theorem e_non [Jx] {j} : PE2 X (.Constant .none j pos) (tC .non) (dC .non) := e_cst pe_non fun _ => rfl
theorem e_str [Jx] {x j} : PE2 X (.Constant (.str x) j pos) (tC (.str x)) (dC (.str x)) := e_cst pe_str fun _ => rfl

/-! ### operators -/
abbrev DR2 := D → D → Mu → DK → Prop
abbrev DR1 := D → Mu → DK → Prop
def RR [Jx] (K : PySem.W.Frag) (r : R2) (r2 : DR2) : Prop := ∀ x y μ Q2, r2 x y μ Q2 → ∀ I H vx vy, At K μ I H → Rp K I x vx → Rp K I y vy → ∀ Q : VK, Go K I μ H Q2 Q → r vx vy H Q
def RU1 [Jx] (K : PySem.W.Frag) (r : V → Hp → VK → Prop) (r2 : DR1) : Prop := ∀ x μ Q2, r2 x μ Q2 → ∀ I H vx, At K μ I H → Rp K I x vx → ∀ Q : VK, Go K I μ H Q2 Q → r vx H Q
def dOp (r : DR2) (ta tb : TE2) : TE2 := fun ρ μ Q => ta ρ μ fun x μ1 => tb ρ μ1 fun y μ2 => r x y μ2 Q
def dUn (r : DR1) (ta : TE2) : TE2 := fun ρ μ Q => ta ρ μ fun x μ1 => r x μ1 Q
theorem w_op {r : DR2} {ρ : Env2} {μ : Mu} {Q : DK} (h : ta2 ρ μ fun x μ1 => tb2 ρ μ1 fun y μ2 => r x y μ2 Q) : dOp r ta2 tb2 ρ μ Q := h
theorem w_un {r : DR1} {ρ : Env2} {μ : Mu} {Q : DK} (h : ta2 ρ μ fun x μ1 => r x μ1 Q) : dUn r ta2 ρ μ Q := h
theorem re_op [Jx] {r : R2} {r2 : DR2} (hr : RR K r r2) (ha : RE K ta ta2) (hb : RE K tb tb2) : RE K (tOp r ta tb) (dOp r2 ta2 tb2) := fun ρ μ Q2 q I σ H hA hS Q g =>
  ha ρ μ _ q I σ H hA hS _ fun x μ1 vx I1 H1 q1 a1 k1 r1 => hb ρ μ1 _ q1 I1 σ H1 a1 (hS.mono k1.ex) _ fun y μ2 vy I2 H2 q2 a2 k2 r2' =>
    hr x y μ2 Q2 q2 I2 H2 vx vy a2 (r1.mono k2.ex) r2' Q (g.past (k1.trans k2))
theorem re_un [Jx] {r : V → Hp → VK → Prop} {r2 : DR1} (hr : RU1 K r r2) (ha : RE K ta ta2) : RE K (tUn r ta) (dUn r2 ta2) := fun ρ μ Q2 q I σ H hA hS Q g =>
  ha ρ μ _ q I σ H hA hS _ fun x μ1 vx I1 H1 q1 a1 k1 r1 => hr x μ1 Q2 q1 I1 H1 vx a1 r1 Q (g.past k1)
theorem e_op [Jx] {op : Operator} {r : R2} {r2 : DR2} (ho : OpR X (binaryOp op) r) (hr : RR X.K r r2) (ha : PE2 X a ta ta2) (hb : PE2 X b tb tb2) : PE2 X (.BinOp a op b pos) (tOp r ta tb) (dOp r2 ta2 tb2) :=
  ⟨pe_op ho ha.pe hb.pe, re_op hr ha.re hb.re⟩
theorem e_cmp [Jx] {op : CmpOp} {r : R2} {r2 : DR2} (ho : OpR X (compareOp op) r) (hr : RR X.K r r2) (ha : PE2 X a ta ta2) (hb : PE2 X b tb tb2) (hm : behindInMarks op b = false) : PE2 X (.Compare a [op] [b] pos) (tOp r ta tb) (dOp r2 ta2 tb2) :=
  ⟨pe_cmpR ho ha.pe hb.pe hm, re_op hr ha.re hb.re⟩
theorem e_un [Jx] {op : UnaryOp} {r : V → Hp → VK → Prop} {r2 : DR1} (ho : UnR X (unaryOp op) r) (hr : RU1 X.K r r2) (ha : PE2 X a ta ta2) : PE2 X (.UnaryOp op a pos) (tUn r ta) (dUn r2 ta2) :=
  ⟨pe_un ho ha.pe, re_un hr ha.re⟩
/-- one rule or another one -/
def rOr (r s : R2) : R2 := fun x y H Q => r x y H Q ∨ s x y H Q
theorem opOr {f : Value → Value → Sem Value} {r s : R2} (h : OpR X f r) (g : OpR X f s) : OpR X f (rOr r s) := by
  intro pins s' σ H x y v u Q I rx ry q
  rcases q with q | q
  · exact h pins s' σ H x y v u Q I rx ry q
  · exact g pins s' σ H x y v u Q I rx ry q
/-- two ints -/
def dI0 (g : Int → Int → D) : DR2 := fun x y μ Q => ∃ i j, x = .int i ∧ y = .int j ∧ Q (g i j) μ
def dI (C : Int → Int → Prop) (g : Int → Int → D) : DR2 := fun x y μ Q => ∃ i j, x = .int i ∧ y = .int j ∧ C i j ∧ Q (g i j) μ
theorem rr_I0 [Jx] {g : Int → Int → V} {g2 : Int → Int → D} (h : ∀ I i j, Rp K I (g2 i j) (g i j) := by intros; rfl) : RR K (rI0 g) (dI0 g2) := fun x y μ Q2 q I H vx vy hA rx ry Q k => by
  obtain ⟨i, j, rfl, rfl, q⟩ := q
  exact ⟨i, j, rx, ry, k _ μ _ I H q hA Kp.refl (h I i j)⟩
theorem rr_I [Jx] {C : Int → Int → Prop} {g : Int → Int → V} {g2 : Int → Int → D} (h : ∀ I i j, Rp K I (g2 i j) (g i j) := by intros; rfl) : RR K (rI C g) (dI C g2) := fun x y μ Q2 q I H vx vy hA rx ry Q k => by
  obtain ⟨i, j, rfl, rfl, c, q⟩ := q
  exact ⟨i, j, rx, ry, c, k _ μ _ I H q hA Kp.refl (h I i j)⟩
theorem w_I0 {g : Int → Int → D} {i j : Int} {μ : Mu} {Q : DK} (q : Q (g i j) μ) : dI0 g (.int i) (.int j) μ Q := ⟨i, j, rfl, rfl, q⟩
theorem w_I {C : Int → Int → Prop} {g : Int → Int → D} {i j : Int} {μ : Mu} {Q : DK} (c : C i j) (q : Q (g i j) μ) : dI C g (.int i) (.int j) μ Q := ⟨i, j, rfl, rfl, c, q⟩

abbrev rvSub : R2 := rI0 fun i j => .int (i - j)
abbrev rvMul : R2 := rI CMul fun i j => .int (i * j)
abbrev rvMulW : R2 := rI CMulW fun i j => .int (i * j)
abbrev rvMod : R2 := rI (fun _ j => 0 < j) fun i j => .int (i % j)
abbrev rvFdiv : R2 := rI CDivW fun i j => .int (i / j)
abbrev rvPow : R2 := rI CPow fun i j => .int (i ^ j.toNat)
abbrev rvShl : R2 := rI CPow fun i j => .int (i * 2 ^ j.toNat)
abbrev rvShr : R2 := rI (fun _ j => 0 ≤ j) fun i j => .int (i / 2 ^ j.toNat)
abbrev rvBitAnd : R2 := rI0 fun i j => .int (Builtin.bitAnd i j)
abbrev rvBitOr : R2 := rI0 fun i j => .int (Builtin.bitOr i j)
abbrev rvBitXor : R2 := rI0 fun i j => .int (Builtin.bitXor i j)
abbrev rvLt : R2 := rI0 fun i j => .bl (decide (i < j))
abbrev rvLe : R2 := rI0 fun i j => .bl (decide (i ≤ j))
abbrev rvGt : R2 := rI0 fun i j => .bl (decide (j < i))
abbrev rvGe : R2 := rI0 fun i j => .bl (decide (j ≤ i))
def dSub : DR2 := dI0 fun i j => .int (i - j)
def dMul : DR2 := dI CMul fun i j => .int (i * j)
def dMulW : DR2 := dI CMulW fun i j => .int (i * j)
def dMod : DR2 := dI (fun _ j => 0 < j) fun i j => .int (i % j)
def dFdiv : DR2 := dI CDivW fun i j => .int (i / j)
def dPow : DR2 := dI CPow fun i j => .int (i ^ j.toNat)
def dShl : DR2 := dI CPow fun i j => .int (i * 2 ^ j.toNat)
def dShr : DR2 := dI (fun _ j => 0 ≤ j) fun i j => .int (i / 2 ^ j.toNat)
def dBitAnd : DR2 := dI0 fun i j => .int (Builtin.bitAnd i j)
def dBitOr : DR2 := dI0 fun i j => .int (Builtin.bitOr i j)
def dBitXor : DR2 := dI0 fun i j => .int (Builtin.bitXor i j)
theorem e_sub [Jx] (ha : PE2 X a ta ta2) (hb : PE2 X b tb tb2) : PE2 X (.BinOp a .Sub b pos) (tOp rvSub ta tb) (dOp dSub ta2 tb2) := e_op op_sub rr_I0 ha hb
theorem e_mul [Jx] (ha : PE2 X a ta ta2) (hb : PE2 X b tb tb2) : PE2 X (.BinOp a .Mult b pos) (tOp rvMul ta tb) (dOp dMul ta2 tb2) := e_op op_mul rr_I ha hb
theorem e_mulW [Jx] (ha : PE2 X a ta ta2) (hb : PE2 X b tb tb2) : PE2 X (.BinOp a .Mult b pos) (tOp rvMulW ta tb) (dOp dMulW ta2 tb2) := e_op op_mulW rr_I ha hb
theorem e_mod [Jx] (ha : PE2 X a ta ta2) (hb : PE2 X b tb tb2) : PE2 X (.BinOp a .Mod b pos) (tOp rvMod ta tb) (dOp dMod ta2 tb2) := e_op op_mod rr_I ha hb
theorem e_fdiv [Jx] (ha : PE2 X a ta ta2) (hb : PE2 X b tb tb2) : PE2 X (.BinOp a .FloorDiv b pos) (tOp rvFdiv ta tb) (dOp dFdiv ta2 tb2) := e_op op_fdivW rr_I ha hb
theorem e_pow [Jx] (ha : PE2 X a ta ta2) (hb : PE2 X b tb tb2) : PE2 X (.BinOp a .Pow b pos) (tOp rvPow ta tb) (dOp dPow ta2 tb2) := e_op op_pow rr_I ha hb
theorem e_shl [Jx] (ha : PE2 X a ta ta2) (hb : PE2 X b tb tb2) : PE2 X (.BinOp a .LShift b pos) (tOp rvShl ta tb) (dOp dShl ta2 tb2) := e_op op_shl rr_I ha hb
theorem e_shr [Jx] (ha : PE2 X a ta ta2) (hb : PE2 X b tb tb2) : PE2 X (.BinOp a .RShift b pos) (tOp rvShr ta tb) (dOp dShr ta2 tb2) := e_op op_shr rr_I ha hb
theorem e_bitand [Jx] (ha : PE2 X a ta ta2) (hb : PE2 X b tb tb2) : PE2 X (.BinOp a .BitAnd b pos) (tOp rvBitAnd ta tb) (dOp dBitAnd ta2 tb2) := e_op op_and rr_I0 ha hb
theorem e_bitor [Jx] (ha : PE2 X a ta ta2) (hb : PE2 X b tb tb2) : PE2 X (.BinOp a .BitOr b pos) (tOp rvBitOr ta tb) (dOp dBitOr ta2 tb2) := e_op op_or rr_I0 ha hb
theorem e_bitxor [Jx] (ha : PE2 X a ta ta2) (hb : PE2 X b tb tb2) : PE2 X (.BinOp a .BitXor b pos) (tOp rvBitXor ta tb) (dOp dBitXor ta2 tb2) := e_op op_xor rr_I0 ha hb
theorem w_sub {i j : Int} {μ : Mu} {Q : DK} (q : Q (.int (i - j)) μ) : dSub (.int i) (.int j) μ Q := ⟨i, j, rfl, rfl, q⟩
theorem w_mul {i j : Int} {μ : Mu} {Q : DK} (c : CMul i j) (q : Q (.int (i * j)) μ) : dMul (.int i) (.int j) μ Q := ⟨i, j, rfl, rfl, c, q⟩
theorem w_mulW {i j : Int} {μ : Mu} {Q : DK} (c : CMulW i j) (q : Q (.int (i * j)) μ) : dMulW (.int i) (.int j) μ Q := ⟨i, j, rfl, rfl, c, q⟩
theorem w_mod {i j : Int} {μ : Mu} {Q : DK} (c : 0 < j) (q : Q (.int (i % j)) μ) : dMod (.int i) (.int j) μ Q := ⟨i, j, rfl, rfl, c, q⟩
theorem w_fdiv {i j : Int} {μ : Mu} {Q : DK} (c : CDivW i j) (q : Q (.int (i / j)) μ) : dFdiv (.int i) (.int j) μ Q := ⟨i, j, rfl, rfl, c, q⟩
theorem w_pow {i j : Int} {μ : Mu} {Q : DK} (c : CPow i j) (q : Q (.int (i ^ j.toNat)) μ) : dPow (.int i) (.int j) μ Q := ⟨i, j, rfl, rfl, c, q⟩
theorem w_shl {i j : Int} {μ : Mu} {Q : DK} (c : CPow i j) (q : Q (.int (i * 2 ^ j.toNat)) μ) : dShl (.int i) (.int j) μ Q := ⟨i, j, rfl, rfl, c, q⟩
theorem w_shr {i j : Int} {μ : Mu} {Q : DK} (c : 0 ≤ j) (q : Q (.int (i / 2 ^ j.toNat)) μ) : dShr (.int i) (.int j) μ Q := ⟨i, j, rfl, rfl, c, q⟩
theorem w_bitand {i j : Int} {μ : Mu} {Q : DK} (q : Q (.int (Builtin.bitAnd i j)) μ) : dBitAnd (.int i) (.int j) μ Q := ⟨i, j, rfl, rfl, q⟩
theorem w_bitor {i j : Int} {μ : Mu} {Q : DK} (q : Q (.int (Builtin.bitOr i j)) μ) : dBitOr (.int i) (.int j) μ Q := ⟨i, j, rfl, rfl, q⟩
theorem w_bitxor {i j : Int} {μ : Mu} {Q : DK} (q : Q (.int (Builtin.bitXor i j)) μ) : dBitXor (.int i) (.int j) μ Q := ⟨i, j, rfl, rfl, q⟩
def dNeg : DR1 := fun x μ Q => ∃ i, x = .int i ∧ Q (.int (-i)) μ
theorem w_neg {i : Int} {μ : Mu} {Q : DK} (q : Q (.int (-i)) μ) : dNeg (.int i) μ Q := ⟨i, rfl, q⟩
theorem e_neg [Jx] (ha : PE2 X a ta ta2) : PE2 X (.UnaryOp .USub a pos) (tUn (rU fun i => .int (-i)) ta) (dUn dNeg ta2) := e_un un_neg (fun x μ Q2 q I H vx hA rx Q k => by
  obtain ⟨i, rfl, q⟩ := q
  exact ⟨i, rx, k _ μ _ I H q hA Kp.refl rfl⟩) ha
/-! comparisons of ints -/
def dLt : DR2 := dI0 fun i j => .bl (decide (i < j))
def dLe : DR2 := dI0 fun i j => .bl (decide (i ≤ j))
def dGt : DR2 := dI0 fun i j => .bl (decide (j < i))
def dGe : DR2 := dI0 fun i j => .bl (decide (j ≤ i))
theorem w_lt {i j : Int} {μ : Mu} {Q : DK} (q : Q (.bl (decide (i < j))) μ) : dLt (.int i) (.int j) μ Q := ⟨i, j, rfl, rfl, q⟩
theorem w_le {i j : Int} {μ : Mu} {Q : DK} (q : Q (.bl (decide (i ≤ j))) μ) : dLe (.int i) (.int j) μ Q := ⟨i, j, rfl, rfl, q⟩
theorem w_gt {i j : Int} {μ : Mu} {Q : DK} (q : Q (.bl (decide (j < i))) μ) : dGt (.int i) (.int j) μ Q := ⟨i, j, rfl, rfl, q⟩
theorem w_ge {i j : Int} {μ : Mu} {Q : DK} (q : Q (.bl (decide (j ≤ i))) μ) : dGe (.int i) (.int j) μ Q := ⟨i, j, rfl, rfl, q⟩
theorem e_lt [Jx] (ha : PE2 X a ta ta2) (hb : PE2 X b tb tb2) : PE2 X (.Compare a [.Lt] [b] pos) (tOp rvLt ta tb) (dOp dLt ta2 tb2) := e_cmp op_lt rr_I0 ha hb (nomark _)
theorem e_le [Jx] (ha : PE2 X a ta ta2) (hb : PE2 X b tb tb2) : PE2 X (.Compare a [.LtE] [b] pos) (tOp rvLe ta tb) (dOp dLe ta2 tb2) := e_cmp op_le rr_I0 ha hb (nomark _)
theorem e_gt [Jx] (ha : PE2 X a ta ta2) (hb : PE2 X b tb tb2) : PE2 X (.Compare a [.Gt] [b] pos) (tOp rvGt ta tb) (dOp dGt ta2 tb2) := e_cmp op_gt rr_I0 ha hb (nomark _)
theorem e_ge [Jx] (ha : PE2 X a ta ta2) (hb : PE2 X b tb tb2) : PE2 X (.Compare a [.GtE] [b] pos) (tOp rvGe ta tb) (dOp dGe ta2 tb2) := e_cmp op_ge rr_I0 ha hb (nomark _)
end
end Y

set_option Elab.async false
set_option linter.all false
set_option maxRecDepth 100000
set_option maxHeartbeats 4000000
namespace Y
open PySem PySem.Spec PyProof.Rows L2
section
variable {X : Cx} {K : PySem.W.Frag} {a b c e o : Expr} {es rest : List Expr} {ta tb tc te to : TE} {ta2 tb2 tc2 te2 to2 : TE2} {pos apos : Pos} {tt tu : TT} {tt2 tu2 : TT2} {tl : TA} {tl2 : TA2}
variable {ρ : Env2} {μ : Mu} {Q : DK}

/-! ### sums -/
def dNewL (ds : List D) (μ : Mu) (Q : DK) : Prop := ds.length ≤ sizeLine ∧ ∀ p, μ p = none → Q (.adr p) (mup μ p (.lst ds))
theorem w_newL {ds : List D} (z : ds.length ≤ sizeLine) (q : ∀ p, μ p = none → Q (.adr p) (mup μ p (.lst ds))) : dNewL ds μ Q := ⟨z, q⟩
theorem go_newL [Jx] {I H : Hp} {ds : List D} {vs : List V} {Q2 : DK} {Q : VK} (q : dNewL ds μ Q2) (hA : At K μ I H) (r : RpA K I ds vs) (k : Go K I μ H Q2 Q) : ∀ p, H p = none → Q (.ref p) (upd H p (.lst vs)) := fun p hp =>
  k _ _ _ _ _ (q.2 p (hA.noM hp)) (hA.got hp ⟨vs, rfl, r⟩) (Kp.got hp) rfl
theorem go_newT [Jx] {I H : Hp} {ds : List D} {vs : List V} {Q2 : DK} {Q : VK} (q : Q2 (.tup ds) μ) (hA : At K μ I H) (r : RpA K I ds vs) (k : Go K I μ H Q2 Q) : ∀ p, H p = none → Q (.ref p) (upd H p (.tup vs)) := fun p hp =>
  k _ _ _ _ _ q (hA.laid hp) (Kp.laid hp (hA.noI hp)) ⟨p, vs, rfl, SqT.of upd_same, r.mono (Exx.new (hA.noI hp))⟩
abbrev rvAddI : R2 := rI0 fun i j => .int (i + j)
abbrev rvAddS : R2 := fun x y H Q => ∃ i j, x = .str i ∧ y = .str j ∧ i.length + j.length ≤ sizeLine ∧ Q (.str (i ++ j)) H
abbrev rvAdd (K : PySem.W.Frag) : R2 := rOr rvAddI (rOr rvAddS (rOr rCat (rCatA K)))
def dAdd : DR2 := fun x y μ Q => (∃ i j, x = .int i ∧ y = .int j ∧ Q (.int (i + j)) μ) ∨ (∃ i j, x = .str i ∧ y = .str j ∧ i.length + j.length ≤ sizeLine ∧ Q (.str (i ++ j)) μ) ∨
  (∃ xs ys, asL μ x = some xs ∧ asL μ y = some ys ∧ dNewL (xs ++ ys) μ Q) ∨ (∃ xs ys, x = .tup xs ∧ y = .tup ys ∧ xs.length + ys.length ≤ sizeLine ∧ Q (.tup (xs ++ ys)) μ)
theorem rr_add [Jx] : RR K (rvAdd K) dAdd := fun x y μ Q2 q I H vx vy hA rx ry Q k => by
  rcases q with ⟨i, j, rfl, rfl, q⟩ | ⟨i, j, rfl, rfl, z, q⟩ | ⟨xs, ys, e1, e2, q⟩ | ⟨xs, ys, rfl, rfl, z, q⟩
  · exact .inl ⟨i, j, rx, ry, k _ μ _ I H q hA Kp.refl rfl⟩
  · exact .inr (.inl ⟨i, j, rx, ry, z, k _ μ _ I H q hA Kp.refl rfl⟩)
  · obtain ⟨p, vs, e3, h3, r3⟩ := asL_at hA rx e1
    obtain ⟨p', vs', e4, h4, r4⟩ := asL_at hA ry e2
    refine .inr (.inr (.inl ⟨p, p', vs, vs', e3, e4, h3, h4, ?_, go_newL q hA (r3.append r4) k⟩))
    rw [r3.length, r4.length, ← List.length_append]; exact q.1
  · obtain ⟨p, vs, e3, h3, r3⟩ := rx
    obtain ⟨p', vs', e4, h4, r4⟩ := ry
    have hs : Exx I H := hA.sub
    refine .inr (.inr (.inr ⟨p, p', vs, vs', e3, e4, hs.sqt h3, hs.sqt h4, by rw [r3.length, r4.length]; exact z, fun z => ?_, fun _ z => ?_, fun _ _ => go_newT q hA (r3.append r4) k⟩))
    · have e : xs = [] := List.eq_nil_of_length_eq_zero (by rw [← r3.length, z]; rfl)
      subst e
      exact k _ _ _ _ _ q hA Kp.refl ⟨p', vs', rfl, h4, r4⟩
    · have e : ys = [] := List.eq_nil_of_length_eq_zero (by rw [← r4.length, z]; rfl)
      subst e
      rw [List.append_nil] at q
      exact k _ _ _ _ _ q hA Kp.refl ⟨p, vs, rfl, h3, r3⟩
theorem e_add [Jx] (ha : PE2 X a ta ta2) (hb : PE2 X b tb tb2) : PE2 X (.BinOp a .Add b pos) (tOp (rvAdd X.K) ta tb) (dOp dAdd ta2 tb2) := e_op (opOr op_add (opOr op_add_str (opOr op_cat op_catA))) rr_add ha hb
theorem w_addI {i j : Int} (q : Q (.int (i + j)) μ) : dAdd (.int i) (.int j) μ Q := .inl ⟨i, j, rfl, rfl, q⟩
theorem w_addS {i j : Str} (z : i.length + j.length ≤ sizeLine) (q : Q (.str (i ++ j)) μ) : dAdd (.str i) (.str j) μ Q := .inr (.inl ⟨i, j, rfl, rfl, z, q⟩)
theorem w_addL {x y : D} {xs ys : List D} (e1 : asL μ x = some xs) (e2 : asL μ y = some ys) (q : dNewL (xs ++ ys) μ Q) : dAdd x y μ Q := .inr (.inr (.inl ⟨xs, ys, e1, e2, q⟩))
theorem w_addT {xs ys : List D} (z : xs.length + ys.length ≤ sizeLine) (q : Q (.tup (xs ++ ys)) μ) : dAdd (.tup xs) (.tup ys) μ Q := .inr (.inr (.inr ⟨xs, ys, rfl, rfl, z, q⟩))
/-- a list times an int -/
def dRep : DR2 := fun x y μ Q => ∃ xs k, asL μ x = some xs ∧ y = .int k ∧ -(2 ^ 63) ≤ k ∧ k < 2 ^ 63 ∧ dNewL (List.replicate k.toNat xs).flatten μ Q
theorem RpA.rep {I : Hp} {ds : List D} {vs : List V} (r : RpA K I ds vs) : ∀ n : Nat, RpA K I (List.replicate n ds).flatten (List.replicate n vs).flatten
  | 0 => rfl
  | n + 1 => by
    rw [List.replicate_succ, List.replicate_succ, List.flatten_cons, List.flatten_cons]
    exact r.append (RpA.rep r n)
theorem rr_rep [Jx] : RR K rRep dRep := fun x y μ Q2 q I H vx vy hA rx ry Q k => by
  obtain ⟨xs, n, e1, rfl, h1, h2, q⟩ := q
  obtain ⟨p, vs, e3, h3, r3⟩ := asL_at hA rx e1
  refine ⟨p, n, vs, e3, ry, h3, h1, h2, ?_, go_newL q hA (r3.rep _) k⟩
  have z := q.1
  rw [← (r3.rep n.toNat).length] at z
  have e : (List.replicate n.toNat vs).flatten.length = n.toNat * vs.length := by
    induction n.toNat with
    | zero => simp
    | succ m ih => rw [List.replicate_succ, List.flatten_cons, List.length_append, ih, Nat.succ_mul, Nat.add_comm]
  rw [e, Nat.mul_comm] at z
  exact z
theorem e_rep [Jx] (ha : PE2 X a ta ta2) (hb : PE2 X b tb tb2) : PE2 X (.BinOp a .Mult b pos) (tOp rRep ta tb) (dOp dRep ta2 tb2) := e_op op_rep rr_rep ha hb
theorem w_rep {x : D} {xs : List D} {k : Int} (e1 : asL μ x = some xs) (h1 : -(2 ^ 63) ≤ k) (h2 : k < 2 ^ 63) (q : dNewL (List.replicate k.toNat xs).flatten μ Q) : dRep x (.int k) μ Q := ⟨xs, k, e1, rfl, h1, h2, q⟩

/-! ### equality -/
mutual
def D.py : D → PyData
  | .non => .none
  | .bl b => .bool b
  | .int i => .int i
  | .str x => .str x
  | .tup ds => .tuple (D.pyA ds)
  | .lst ds => .list (D.pyA ds)
  | .ty _ => .none
  | .adr _ => .none
  | .obj _ _ _ => .none
  | .scr ns => .list (ns.map PyData.int)
  | .tun _ => .none
def D.pyA : List D → List PyData
  | [] => []
  | d :: ds => D.py d :: D.pyA ds
end
mutual
/-- data of no more than so many levels -/
def D.shp : Nat → D → Bool
  | _, .non => true
  | _, .bl _ => true
  | _, .int _ => true
  | _, .str x => PyData.strOk x
  | n + 1, .tup ds => D.shpA n ds
  | n + 1, .lst ds => D.shpA n ds
  | _, _ => false
def D.shpA : Nat → List D → Bool
  | _, [] => true
  | n, d :: ds => D.shp n d && D.shpA n ds
end
mutual
theorem shp_py : ∀ {n : Nat} {d : D}, D.shp n d = true → d.py.canLay0 = true ∧ d.py.depth ≤ n
  | _, .non, _ => ⟨rfl, Nat.zero_le _⟩
  | _, .bl _, _ => ⟨rfl, Nat.zero_le _⟩
  | _, .int _, _ => ⟨rfl, Nat.zero_le _⟩
  | n, .str x, h => ⟨by cases n <;> exact h, Nat.zero_le _⟩
  | n + 1, .tup ds, h => let ⟨p, q⟩ := shpA_py (n := n) (ds := ds) h; ⟨p, Nat.succ_le_succ q⟩
  | n + 1, .lst ds, h => let ⟨p, q⟩ := shpA_py (n := n) (ds := ds) h; ⟨p, Nat.succ_le_succ q⟩
  | 0, .tup _, h => by cases h
  | 0, .lst _, h => by cases h
  | n, .ty _, h => by cases n <;> cases h
  | n, .adr _, h => by cases n <;> cases h
  | n, .obj _ _ _, h => by cases n <;> cases h
  | n, .scr _, h => by cases n <;> cases h
  | n, .tun _, h => by cases n <;> cases h
theorem shpA_py : ∀ {n : Nat} {ds : List D}, D.shpA n ds = true → PyData.canLayAll0 (D.pyA ds) = true ∧ PyData.depthAll (D.pyA ds) ≤ n
  | _, [], _ => ⟨rfl, Nat.zero_le _⟩
  | n, d :: ds, h => by
    unfold D.shpA at h
    rw [Bool.and_eq_true] at h
    obtain ⟨h1, h2⟩ := h
    obtain ⟨p1, q1⟩ := shp_py h1
    obtain ⟨p2, q2⟩ := shpA_py h2
    refine ⟨?_, Nat.max_le.mpr ⟨q1, q2⟩⟩
    show (PyData.canLay0 (D.py d) && PyData.canLayAll0 (D.pyA ds)) = true
    rw [p1, p2]; rfl
end
mutual
theorem shp_dp {I H : Hp} (hs : Exx I H) : ∀ {n : Nat} {d : D} {v : V}, D.shp n d = true → Rp K I d v → Dp K H v d.py
  | _, .non, _, _, r => by cases (show _ = _ from r); exact .non
  | _, .bl b, _, _, r => by cases (show _ = _ from r); exact .bl b
  | _, .int i, _, _, r => by cases (show _ = _ from r); exact .int i
  | _, .str x, _, _, r => by cases (show _ = _ from r); exact .str x
  | n + 1, .tup ds, _, h, r => by
    obtain ⟨p, vs, rfl, h1, h2⟩ := r
    exact .tup (hs.sqt h1) (shpA_dp hs (n := n) h h2)
  | n + 1, .lst ds, _, h, r => by
    obtain ⟨p, vs, rfl, h1, h2⟩ := r
    exact .lst (SqL.of (hs _ _ h1)) (shpA_dp hs (n := n) h h2)
  | 0, .tup _, _, h, _ => by cases h
  | 0, .lst _, _, h, _ => by cases h
  | n, .ty _, _, h, _ => by cases n <;> cases h
  | n, .adr _, _, h, _ => by cases n <;> cases h
  | n, .obj _ _ _, _, h, _ => by cases n <;> cases h
  | n, .scr _, _, h, _ => by cases n <;> cases h
  | n, .tun _, _, h, _ => by cases n <;> cases h
theorem shpA_dp {I H : Hp} (hs : Exx I H) : ∀ {n : Nat} {ds : List D} {vs : List V}, D.shpA n ds = true → RpA K I ds vs → DpAll K H vs (D.pyA ds)
  | _, [], _, _, r => by cases (show _ = _ from r); exact .nil
  | n, d :: ds, _, h, r => by
    unfold D.shpA at h
    rw [Bool.and_eq_true] at h
    obtain ⟨v, q, rfl, r1, r2⟩ := r
    exact .cons (shp_dp hs h.1 r1) (shpA_dp hs h.2 r2)
end
/-- an owned list of data, as it is -/
def rsv (μ : Mu) : D → D
  | .adr a => match μ a with
    | some (.lst ds) => .lst ds
    | _ => .adr a
  | d => d
theorem rsv_dp [Jx] {I H : Hp} {n : Nat} {d : D} {v : V} (hA : At K μ I H) (h : D.shp n (rsv μ d) = true) (r : Rp K I d v) : Dp K H v (rsv μ d).py := by
  cases d with
  | adr p =>
    cases q : μ p with
    | none => simp only [rsv, q] at h; cases n <;> cases h
    | some m =>
      cases m with
      | lst ds =>
        simp only [rsv, q] at h ⊢
        obtain ⟨_, ho, h1, vs, rfl, h2⟩ := hA.own p _ q
        cases (show _ = _ from r)
        cases n with
        | zero => cases h
        | succ n => exact .lst (SqL.of h1) (shpA_dp hA.sub (n := n) h h2)
      | dk _ => simp only [rsv, q] at h; cases n <;> cases h
      | ins _ _ => simp only [rsv, q] at h; cases n <;> cases h
      | dn _ _ _ => simp only [rsv, q] at h; cases n <;> cases h
      | exc _ _ => simp only [rsv, q] at h; cases n <;> cases h
      | raw _ => simp only [rsv, q] at h; cases n <;> cases h
  | _ => exact shp_dp hA.sub h r
/-- scalars -/
def eqS : D → D → Option Bool
  | .non, .non => some true | .non, .int _ => some false | .int _, .non => some false | .non, .bl _ => some false | .bl _, .non => some false | .non, .str _ => some false | .str _, .non => some false
  | .int i, .int j => some (decide (i = j)) | .bl a, .bl b => some (decide (a = b)) | .str x, .str y => some (decide (x = y))
  | .int _, .str _ => some false | .str _, .int _ => some false | .bl _, .str _ => some false | .str _, .bl _ => some false
  | _, _ => none
theorem eqS_ok {I : Hp} {x y : D} {vx vy : V} {b : Bool} (h : eqS x y = some b) (rx : Rp K I x vx) (ry : Rp K I y vy) : scal vx vy = true ∧ decide (vx = vy) = b := by
  cases x with
  | non => cases (show vx = _ from rx); cases y <;> first | (cases h; done) | (cases (show vy = _ from ry); cases h; exact ⟨rfl, by first | rfl | simp⟩)
  | bl _ => cases (show vx = _ from rx); cases y <;> first | (cases h; done) | (cases (show vy = _ from ry); cases h; exact ⟨rfl, by first | rfl | simp⟩)
  | int _ => cases (show vx = _ from rx); cases y <;> first | (cases h; done) | (cases (show vy = _ from ry); cases h; exact ⟨rfl, by first | rfl | simp⟩)
  | str _ => cases (show vx = _ from rx); cases y <;> first | (cases h; done) | (cases (show vy = _ from ry); cases h; exact ⟨rfl, by first | rfl | simp⟩)
  | ty _ => cases y <;> cases h
  | adr _ => cases y <;> cases h
  | tup _ => cases y <;> cases h
  | lst _ => cases y <;> cases h
  | obj _ _ _ => cases y <;> cases h
  | scr _ => cases y <;> cases h
  | tun _ => cases y <;> cases h
/-- what == tells -/
def EqR (μ : Mu) (x y : D) (b : Bool) : Prop := eqS x y = some b ∨ (D.shp 64 (rsv μ x) = true ∧ D.shp 64 (rsv μ y) = true ∧ PyData.eqv (rsv μ x).py (rsv μ y).py = b)
def dEq : DR2 := fun x y μ Q => ∃ b, EqR μ x y b ∧ Q (.bl b) μ
def dNe : DR2 := fun x y μ Q => ∃ b, EqR μ x y b ∧ Q (.bl (!b)) μ
theorem w_eq {x y : D} {b : Bool} (h : EqR μ x y b) (q : Q (.bl b) μ) : dEq x y μ Q := ⟨b, h, q⟩
theorem w_ne {x y : D} {b : Bool} (h : EqR μ x y b) (q : Q (.bl (!b)) μ) : dNe x y μ Q := ⟨b, h, q⟩
theorem w_eqS {x y : D} {b : Bool} (h : eqS x y = some b) (q : Q (.bl b) μ) : dEq x y μ Q := ⟨b, .inl h, q⟩
theorem w_neS {x y : D} {b : Bool} (h : eqS x y = some b) (q : Q (.bl (!b)) μ) : dNe x y μ Q := ⟨b, .inl h, q⟩
theorem w_eqD {x y : D} (h1 : D.shp 64 (rsv μ x) = true) (h2 : D.shp 64 (rsv μ y) = true) (q : Q (.bl (PyData.eqv (rsv μ x).py (rsv μ y).py)) μ) : dEq x y μ Q := ⟨_, .inr ⟨h1, h2, rfl⟩, q⟩
theorem w_neD {x y : D} (h1 : D.shp 64 (rsv μ x) = true) (h2 : D.shp 64 (rsv μ y) = true) (q : Q (.bl (!PyData.eqv (rsv μ x).py (rsv μ y).py)) μ) : dNe x y μ Q := ⟨_, .inr ⟨h1, h2, rfl⟩, q⟩
theorem shaped_of {n : Nat} {d : D} (hn : n ≤ 64) (h : D.shp n d = true) : SeqAt.shaped d.py = true := by
  obtain ⟨h1, h2⟩ := shp_py h
  unfold SeqAt.shaped
  rw [h1, decide_eq_true (Nat.le_trans h2 hn)]; rfl
theorem rr_eq [Jx] : RR K (rOr rEq (rEqD K)) dEq := fun x y μ Q2 q I H vx vy hA rx ry Q k => by
  obtain ⟨b, h, q⟩ := q
  rcases h with h | ⟨h1, h2, h3⟩
  · obtain ⟨s, e⟩ := eqS_ok h rx ry
    exact .inl ⟨s, by rw [e]; exact k _ _ _ _ _ q hA Kp.refl rfl⟩
  · exact .inr ⟨_, _, rsv_dp hA h1 rx, rsv_dp hA h2 ry, shaped_of (Nat.le_refl _) h1, shaped_of (Nat.le_refl _) h2, by rw [h3]; exact k _ _ _ _ _ q hA Kp.refl rfl⟩
theorem rr_ne [Jx] : RR K (rOr rNe (rNeD K)) dNe := fun x y μ Q2 q I H vx vy hA rx ry Q k => by
  obtain ⟨b, h, q⟩ := q
  rcases h with h | ⟨h1, h2, h3⟩
  · obtain ⟨s, e⟩ := eqS_ok h rx ry
    exact .inl ⟨s, by rw [e]; exact k _ _ _ _ _ q hA Kp.refl rfl⟩
  · exact .inr ⟨_, _, rsv_dp hA h1 rx, rsv_dp hA h2 ry, shaped_of (Nat.le_refl _) h1, shaped_of (Nat.le_refl _) h2, by rw [h3]; exact k _ _ _ _ _ q hA Kp.refl rfl⟩
theorem e_eq [Jx] {k : Nat} (hr : Room k X.A) (ha : PE2 X a ta ta2) (hb : PE2 X b tb tb2) : PE2 X (.Compare a [.Eq] [b] pos) (tOp (rOr rEq (rEqD X.K)) ta tb) (dOp dEq ta2 tb2) := e_cmp (opOr op_eq (op_eqD hr.units)) rr_eq ha hb (nomark _)
theorem e_ne [Jx] {k : Nat} (hr : Room k X.A) (ha : PE2 X a ta ta2) (hb : PE2 X b tb tb2) : PE2 X (.Compare a [.NotEq] [b] pos) (tOp (rOr rNe (rNeD X.K)) ta tb) (dOp dNe ta2 tb2) := e_cmp (opOr op_ne (op_neD hr.units)) rr_ne ha hb (nomark _)

/-! ### is -/
def dIsN : DR2 := fun x y μ Q => y = .non ∧ ((x = .non ∧ Q (.bl true) μ) ∨ (x ≠ .non ∧ Q (.bl false) μ))
def dNotN : DR2 := fun x y μ Q => y = .non ∧ ((x = .non ∧ Q (.bl false) μ) ∨ (x ≠ .non ∧ Q (.bl true) μ))
theorem w_isN1 (q : Q (.bl true) μ) : dIsN .non .non μ Q := ⟨rfl, .inl ⟨rfl, q⟩⟩
theorem w_isN0 {x : D} (h : x ≠ .non) (q : Q (.bl false) μ) : dIsN x .non μ Q := ⟨rfl, .inr ⟨h, q⟩⟩
theorem w_notN1 (q : Q (.bl false) μ) : dNotN .non .non μ Q := ⟨rfl, .inl ⟨rfl, q⟩⟩
theorem w_notN0 {x : D} (h : x ≠ .non) (q : Q (.bl true) μ) : dNotN x .non μ Q := ⟨rfl, .inr ⟨h, q⟩⟩
theorem rp_non {I : Hp} {x : D} {v : V} (r : Rp K I x v) (h : x ≠ .non) : v ≠ .non := by
  cases x with
  | non => exact absurd rfl h
  | bl _ => cases (show v = _ from r); exact fun z => nomatch z
  | int _ => cases (show v = _ from r); exact fun z => nomatch z
  | str _ => cases (show v = _ from r); exact fun z => nomatch z
  | ty _ => cases (show v = _ from r); exact fun z => nomatch z
  | adr _ => cases (show v = _ from r); exact fun z => nomatch z
  | tup _ => obtain ⟨_, _, rfl, _⟩ := r; exact fun z => nomatch z
  | lst _ => obtain ⟨_, _, rfl, _⟩ := r; exact fun z => nomatch z
  | obj _ _ _ => obtain ⟨_, _, _, rfl, _⟩ := r; exact fun z => nomatch z
  | scr _ => obtain ⟨_, rfl, _⟩ := r; exact fun z => nomatch z
  | tun _ => obtain ⟨_, _, rfl, _⟩ := r; exact fun z => nomatch z
abbrev rvIsN : R2 := fun x y H Q => y = .non ∧ Q (.bl (decide (x = .non))) H
abbrev rvNotN : R2 := fun x y H Q => y = .non ∧ Q (.bl (!decide (x = .non))) H
theorem rr_isN [Jx] : RR K rvIsN dIsN := fun x y μ Q2 q I H vx vy hA rx ry Q k => by
  obtain ⟨rfl, q⟩ := q
  refine ⟨ry, ?_⟩
  rcases q with ⟨rfl, q⟩ | ⟨h, q⟩
  · cases (show vx = _ from rx); exact k _ _ _ _ _ q hA Kp.refl rfl
  · rw [decide_eq_false (rp_non rx h)]; exact k _ _ _ _ _ q hA Kp.refl rfl
theorem rr_notN [Jx] : RR K rvNotN dNotN := fun x y μ Q2 q I H vx vy hA rx ry Q k => by
  obtain ⟨rfl, q⟩ := q
  refine ⟨ry, ?_⟩
  rcases q with ⟨rfl, q⟩ | ⟨h, q⟩
  · cases (show vx = _ from rx); exact k _ _ _ _ _ q hA Kp.refl rfl
  · rw [decide_eq_false (rp_non rx h)]; exact k _ _ _ _ _ q hA Kp.refl rfl
theorem e_isN [Jx] (ha : PE2 X a ta ta2) (hb : PE2 X b tb tb2) : PE2 X (.Compare a [.Is] [b] pos) (tOp rvIsN ta tb) (dOp dIsN ta2 tb2) := e_cmp op_isN rr_isN ha hb (nomark _)
theorem e_notN [Jx] (ha : PE2 X a ta ta2) (hb : PE2 X b tb tb2) : PE2 X (.Compare a [.IsNot] [b] pos) (tOp rvNotN ta tb) (dOp dNotN ta2 tb2) := e_cmp op_notN rr_notN ha hb (nomark _)
/-- is True, is False, of truths -/
def dIsB : DR2 := fun x y μ Q => ∃ a b, x = .bl a ∧ y = .bl b ∧ Q (.bl (decide (a = b))) μ
def dNotB : DR2 := fun x y μ Q => ∃ a b, x = .bl a ∧ y = .bl b ∧ Q (.bl (!decide (a = b))) μ
theorem w_isB {a b : Bool} (q : Q (.bl (decide (a = b))) μ) : dIsB (.bl a) (.bl b) μ Q := ⟨a, b, rfl, rfl, q⟩
theorem w_notB {a b : Bool} (q : Q (.bl (!decide (a = b))) μ) : dNotB (.bl a) (.bl b) μ Q := ⟨a, b, rfl, rfl, q⟩
theorem e_isB [Jx] (ha : PE2 X a ta ta2) (hb : PE2 X b tb tb2) : PE2 X (.Compare a [.Is] [b] pos) (tOp rIsB ta tb) (dOp dIsB ta2 tb2) := e_cmp op_isBl (fun x y μ Q2 q I H vx vy hA rx ry Q k => by
  obtain ⟨a, b, rfl, rfl, q⟩ := q
  exact ⟨a, b, rx, ry, k _ _ _ _ _ q hA Kp.refl rfl⟩) ha hb (nomark _)
theorem e_notB [Jx] (ha : PE2 X a ta ta2) (hb : PE2 X b tb tb2) : PE2 X (.Compare a [.IsNot] [b] pos) (tOp rNotB ta tb) (dOp dNotB ta2 tb2) := e_cmp op_notBl (fun x y μ Q2 q I H vx vy hA rx ry Q k => by
  obtain ⟨a, b, rfl, rfl, q⟩ := q
  exact ⟨a, b, rx, ry, k _ _ _ _ _ q hA Kp.refl rfl⟩) ha hb (nomark _)

/-! ### in -/
def D.flat : D → Bool
  | .non => true | .bl _ => true | .int _ => true | .str _ => true | _ => false
def D.v : D → V
  | .bl b => .bl b | .int i => .int i | .str x => .str x | _ => .non
theorem flat_v {I : Hp} {d : D} {v : V} (h : d.flat = true) (r : Rp K I d v) : v = d.v ∧ flatV v = true := by
  cases d with
  | non => cases (show v = _ from r); exact ⟨rfl, rfl⟩
  | bl _ => cases (show v = _ from r); exact ⟨rfl, rfl⟩
  | int _ => cases (show v = _ from r); exact ⟨rfl, rfl⟩
  | str _ => cases (show v = _ from r); exact ⟨rfl, rfl⟩
  | ty _ => cases h
  | adr _ => cases h
  | tup _ => cases h
  | lst _ => cases h
  | obj _ _ _ => cases h
  | scr _ => cases h
  | tun _ => cases h
theorem flat_vs {I : Hp} : ∀ {ds : List D} {vs : List V}, ds.all D.flat = true → RpA K I ds vs → vs = ds.map D.v ∧ vs.all flatV = true
  | [], _, _, r => by cases (show _ = _ from r); exact ⟨rfl, rfl⟩
  | d :: ds, _, h, r => by
    obtain ⟨v, w, rfl, r1, r2⟩ := r
    rw [List.all_cons, Bool.and_eq_true] at h
    obtain ⟨e1, f1⟩ := flat_v h.1 r1
    obtain ⟨e2, f2⟩ := flat_vs h.2 r2
    exact ⟨by rw [e1, e2]; rfl, by rw [List.all_cons, f1, f2]; rfl⟩
def D.inn (x : D) (ds : List D) : Bool := inV x.v (ds.map D.v)
abbrev rvInS : R2 := fun x y H Q => ∃ (c : Nat) (z : Str), x = .str ⟨#[c]⟩ ∧ y = .str z ∧ Q (.bl (decide (c ∈ z.cps.toList))) H
abbrev rvNotInS : R2 := fun x y H Q => ∃ (c : Nat) (z : Str), x = .str ⟨#[c]⟩ ∧ y = .str z ∧ Q (.bl (!decide (c ∈ z.cps.toList))) H
abbrev rvInSS : R2 := fun x y H Q => ∃ i j, x = .str i ∧ y = .str j ∧ Q (.bl (!(Builtin.Str.occurrences j i 0 j.length 1).isEmpty)) H
abbrev rvNotInSS : R2 := fun x y H Q => ∃ i j, x = .str i ∧ y = .str j ∧ Q (.bl (!(!(Builtin.Str.occurrences j i 0 j.length 1).isEmpty))) H
/-- what in tells -/
def InR (μ : Mu) (x y : D) (k : Bool) : Prop := (∃ (c : Nat) (z : Str), x = .str ⟨#[c]⟩ ∧ y = .str z ∧ decide (c ∈ z.cps.toList) = k) ∨ (∃ i j, x = .str i ∧ y = .str j ∧ (!(Builtin.Str.occurrences j i 0 j.length 1).isEmpty) = k) ∨
  ∃ ds, asS μ y = some ds ∧ x.flat = true ∧ ds.all D.flat = true ∧ x.inn ds = k
def dIn : DR2 := fun x y μ Q => ∃ k, InR μ x y k ∧ Q (.bl k) μ
def dNotIn : DR2 := fun x y μ Q => ∃ k, InR μ x y k ∧ Q (.bl (!k)) μ
theorem rr_in [Jx] : RR K (rOr rvInS (rOr rvInSS (rIn K false))) dIn := fun x y μ Q2 q I H vx vy hA rx ry Q k => by
  obtain ⟨b, h, q⟩ := q
  have fin := k _ _ _ _ _ q hA Kp.refl rfl
  rcases h with ⟨c, z, rfl, rfl, h⟩ | ⟨i, j, rfl, rfl, h⟩ | ⟨ds, h1, h2, h3, h4⟩
  · exact .inl ⟨c, z, rx, ry, by rw [h]; exact fin⟩
  · exact .inr (.inl ⟨i, j, rx, ry, by rw [h]; exact fin⟩)
  · obtain ⟨p, vs, e, hs, r⟩ := asS_at hA ry h1
    obtain ⟨e1, f1⟩ := flat_v h2 rx
    obtain ⟨e2, f2⟩ := flat_vs h3 r
    refine .inr (.inr ⟨p, vs, e, hs, f1, f2, ?_⟩)
    rw [if_neg Bool.false_ne_true, e1, e2]
    have h4' : inV x.v (ds.map D.v) = b := h4
    rw [h4']; exact fin
theorem rr_notIn [Jx] : RR K (rOr rvNotInS (rOr rvNotInSS (rIn K true))) dNotIn := fun x y μ Q2 q I H vx vy hA rx ry Q k => by
  obtain ⟨b, h, q⟩ := q
  have fin := k _ _ _ _ _ q hA Kp.refl rfl
  rcases h with ⟨c, z, rfl, rfl, h⟩ | ⟨i, j, rfl, rfl, h⟩ | ⟨ds, h1, h2, h3, h4⟩
  · exact .inl ⟨c, z, rx, ry, by rw [h]; exact fin⟩
  · exact .inr (.inl ⟨i, j, rx, ry, by rw [h]; exact fin⟩)
  · obtain ⟨p, vs, e, hs, r⟩ := asS_at hA ry h1
    obtain ⟨e1, f1⟩ := flat_v h2 rx
    obtain ⟨e2, f2⟩ := flat_vs h3 r
    refine .inr (.inr ⟨p, vs, e, hs, f1, f2, ?_⟩)
    rw [if_pos rfl, e1, e2]
    have h4' : inV x.v (ds.map D.v) = b := h4
    rw [h4']; exact fin
theorem e_in [Jx] (ha : PE2 X a ta ta2) (hb : PE2 X b tb tb2) (hm : behindInMarks .In b = false) : PE2 X (.Compare a [.In] [b] pos) (tOp (rOr rvInS (rOr rvInSS (rIn X.K false))) ta tb) (dOp dIn ta2 tb2) := e_cmp (opOr op_in_sign (opOr op_in_str op_in_seq)) rr_in ha hb hm
theorem e_notIn [Jx] (ha : PE2 X a ta ta2) (hb : PE2 X b tb tb2) (hm : behindInMarks .NotIn b = false) : PE2 X (.Compare a [.NotIn] [b] pos) (tOp (rOr rvNotInS (rOr rvNotInSS (rIn X.K true))) ta tb) (dOp dNotIn ta2 tb2) := e_cmp (opOr op_notIn_sign (opOr op_notin_str op_notIn_seq)) rr_notIn ha hb hm
theorem w_inC {c : Nat} {z : Str} (q : Q (.bl (decide (c ∈ z.cps.toList))) μ) : dIn (.str ⟨#[c]⟩) (.str z) μ Q := ⟨_, .inl ⟨c, z, rfl, rfl, rfl⟩, q⟩
theorem w_notInC {c : Nat} {z : Str} (q : Q (.bl (!decide (c ∈ z.cps.toList))) μ) : dNotIn (.str ⟨#[c]⟩) (.str z) μ Q := ⟨_, .inl ⟨c, z, rfl, rfl, rfl⟩, q⟩
theorem w_inS {x y : D} {ds : List D} (h1 : asS μ y = some ds) (h2 : x.flat = true) (h3 : ds.all D.flat = true) (q : Q (.bl (x.inn ds)) μ) : dIn x y μ Q := ⟨_, .inr (.inr ⟨ds, h1, h2, h3, rfl⟩), q⟩
theorem w_notInS {x y : D} {ds : List D} (h1 : asS μ y = some ds) (h2 : x.flat = true) (h3 : ds.all D.flat = true) (q : Q (.bl (!x.inn ds)) μ) : dNotIn x y μ Q := ⟨_, .inr (.inr ⟨ds, h1, h2, h3, rfl⟩), q⟩
end
end Y

set_option Elab.async false
set_option linter.all false
set_option maxRecDepth 100000
set_option maxHeartbeats 4000000
namespace Y
open PySem PySem.Spec PyProof.Rows L2
section
variable {X : Cx} {K : PySem.W.Frag} {a b c e o : Expr} {es rest : List Expr} {ta tb tc te to : TE} {ta2 tb2 tc2 te2 to2 : TE2} {pos apos : Pos} {tt tu : TT} {tt2 tu2 : TT2} {tl : TA} {tl2 : TA2}
variable {ρ : Env2} {μ : Mu} {Q : DK} {T F : Mu → Prop}

/-! ### tests -/
def dVal (t : TE2) : TT2 := fun ρ μ T F => t ρ μ fun d μ' => ∃ b, d = .bl b ∧ Br b (T μ') (F μ')
def dTail (T F : Mu → Prop) : DK := fun d μ' => ∃ b, d = .bl b ∧ Br b (T μ') (F μ')
theorem w_tail {b : Bool} (h : Br b (T μ) (F μ)) : dTail T F (.bl b) μ := ⟨b, rfl, h⟩
theorem w_val (h : te2 ρ μ (dTail T F)) : dVal te2 ρ μ T F := h
theorem re_val [Jx] {I H : Hp} {Q2 : Bool → Hp → Prop} {d : D} {v : V} (hA : At K μ I H) (r : Rp K I d v) (h : ∃ b, d = .bl b ∧ Br b (T μ) (F μ)) (g1 : GoU K I μ H T (Q2 true)) (g2 : GoU K I μ H F (Q2 false)) : ∃ k, v = .bl k ∧ Q2 k H := by
  obtain ⟨b, rfl, h⟩ := h
  refine ⟨b, r, ?_⟩
  cases b with
  | true => exact g1 μ I H (h.1 rfl) hA Kp.refl
  | false => exact g2 μ I H (h.2 rfl) hA Kp.refl
/-- a comparison, a call .. as a test -/
theorem t_cmp [Jx] {op : CmpOp} {r : R2} {r2 : DR2} (ho : OpR X (compareOp op) r) (hr : RR X.K r r2) (ha : PE2 X a ta ta2) (hb : PE2 X b tb tb2) (hm : behindInMarks op b = false) : PT2 X (.Compare a [op] [b] pos) (tTest (tOp r ta tb)) (dVal (dOp r2 ta2 tb2)) :=
  ⟨pt_cmpR ho ha.pe hb.pe hm, fun ρ μ T F q I σ H hA hS Q g1 g2 => re_op hr ha.re hb.re ρ μ _ q I σ H hA hS _ fun d μ' v I' H' q' a' k' r' => re_val a' r' q' (g1.past k') (g2.past k')⟩
theorem t_val [Jx] (he : PE2 X e te te2) (hw : ∀ whole, isTrue e X.env whole = (do let v ← whole; standAt e.pos; holding [v] (truthy v)) := by intro _; rfl) : PT2 X e (tB te) (dVal te2) :=
  ⟨pt_val he.pe hw, fun ρ μ T F q I σ H hA hS Q g1 g2 => he.re ρ μ _ q I σ H hA hS _ fun d μ' v I' H' q' a' k' r' => re_val a' r' q' (g1.past k') (g2.past k')⟩
theorem t_lt [Jx] (ha : PE2 X a ta ta2) (hb : PE2 X b tb tb2) : PT2 X (.Compare a [.Lt] [b] pos) (tTest (tOp rvLt ta tb)) (dVal (dOp dLt ta2 tb2)) := t_cmp op_lt rr_I0 ha hb (nomark _)
theorem t_le [Jx] (ha : PE2 X a ta ta2) (hb : PE2 X b tb tb2) : PT2 X (.Compare a [.LtE] [b] pos) (tTest (tOp rvLe ta tb)) (dVal (dOp dLe ta2 tb2)) := t_cmp op_le rr_I0 ha hb (nomark _)
theorem t_gt [Jx] (ha : PE2 X a ta ta2) (hb : PE2 X b tb tb2) : PT2 X (.Compare a [.Gt] [b] pos) (tTest (tOp rvGt ta tb)) (dVal (dOp dGt ta2 tb2)) := t_cmp op_gt rr_I0 ha hb (nomark _)
theorem t_ge [Jx] (ha : PE2 X a ta ta2) (hb : PE2 X b tb tb2) : PT2 X (.Compare a [.GtE] [b] pos) (tTest (tOp rvGe ta tb)) (dVal (dOp dGe ta2 tb2)) := t_cmp op_ge rr_I0 ha hb (nomark _)
theorem t_eq [Jx] {k : Nat} (hr : Room k X.A) (ha : PE2 X a ta ta2) (hb : PE2 X b tb tb2) : PT2 X (.Compare a [.Eq] [b] pos) (tTest (tOp (rOr rEq (rEqD X.K)) ta tb)) (dVal (dOp dEq ta2 tb2)) := t_cmp (opOr op_eq (op_eqD hr.units)) rr_eq ha hb (nomark _)
theorem t_ne [Jx] {k : Nat} (hr : Room k X.A) (ha : PE2 X a ta ta2) (hb : PE2 X b tb tb2) : PT2 X (.Compare a [.NotEq] [b] pos) (tTest (tOp (rOr rNe (rNeD X.K)) ta tb)) (dVal (dOp dNe ta2 tb2)) := t_cmp (opOr op_ne (op_neD hr.units)) rr_ne ha hb (nomark _)
theorem t_isN [Jx] (ha : PE2 X a ta ta2) (hb : PE2 X b tb tb2) : PT2 X (.Compare a [.Is] [b] pos) (tTest (tOp rvIsN ta tb)) (dVal (dOp dIsN ta2 tb2)) := t_cmp op_isN rr_isN ha hb (nomark _)
theorem t_notN [Jx] (ha : PE2 X a ta ta2) (hb : PE2 X b tb tb2) : PT2 X (.Compare a [.IsNot] [b] pos) (tTest (tOp rvNotN ta tb)) (dVal (dOp dNotN ta2 tb2)) := t_cmp op_notN rr_notN ha hb (nomark _)
theorem rr_isB [Jx] : RR K rIsB dIsB := fun x y μ Q2 q I H vx vy hA rx ry Q k => by
  obtain ⟨a, b, rfl, rfl, q⟩ := q
  exact ⟨a, b, rx, ry, k _ _ _ _ _ q hA Kp.refl rfl⟩
theorem rr_notB [Jx] : RR K rNotB dNotB := fun x y μ Q2 q I H vx vy hA rx ry Q k => by
  obtain ⟨a, b, rfl, rfl, q⟩ := q
  exact ⟨a, b, rx, ry, k _ _ _ _ _ q hA Kp.refl rfl⟩
theorem t_isB [Jx] (ha : PE2 X a ta ta2) (hb : PE2 X b tb tb2) : PT2 X (.Compare a [.Is] [b] pos) (tTest (tOp rIsB ta tb)) (dVal (dOp dIsB ta2 tb2)) := t_cmp op_isBl rr_isB ha hb (nomark _)
theorem t_notB [Jx] (ha : PE2 X a ta ta2) (hb : PE2 X b tb tb2) : PT2 X (.Compare a [.IsNot] [b] pos) (tTest (tOp rNotB ta tb)) (dVal (dOp dNotB ta2 tb2)) := t_cmp op_notBl rr_notB ha hb (nomark _)
theorem t_in [Jx] (ha : PE2 X a ta ta2) (hb : PE2 X b tb tb2) (hm : behindInMarks .In b = false) : PT2 X (.Compare a [.In] [b] pos) (tTest (tOp (rOr rvInS (rOr rvInSS (rIn X.K false))) ta tb)) (dVal (dOp dIn ta2 tb2)) := t_cmp (opOr op_in_sign (opOr op_in_str op_in_seq)) rr_in ha hb hm
theorem t_notIn [Jx] (ha : PE2 X a ta ta2) (hb : PE2 X b tb tb2) (hm : behindInMarks .NotIn b = false) : PT2 X (.Compare a [.NotIn] [b] pos) (tTest (tOp (rOr rvNotInS (rOr rvNotInSS (rIn X.K true))) ta tb)) (dVal (dOp dNotIn ta2 tb2)) := t_cmp (opOr op_notIn_sign (opOr op_notin_str op_notIn_seq)) rr_notIn ha hb hm
/-- and, or, not -/
def dAnd (t u : TT2) : TT2 := fun ρ μ T F => t ρ μ (fun μ1 => u ρ μ1 T F) F
def dOr (t u : TT2) : TT2 := fun ρ μ T F => t ρ μ T (fun μ1 => u ρ μ1 T F)
def dNot (t : TT2) : TT2 := fun ρ μ T F => t ρ μ F T
theorem w_and (h : tt2 ρ μ (fun μ1 => tu2 ρ μ1 T F) F) : dAnd tt2 tu2 ρ μ T F := h
theorem w_or (h : tt2 ρ μ T (fun μ1 => tu2 ρ μ1 T F)) : dOr tt2 tu2 ρ μ T F := h
theorem w_not (h : tt2 ρ μ F T) : dNot tt2 ρ μ T F := h
theorem t_not [Jx] (h : PT2 X a tt tt2) : PT2 X (.UnaryOp .Not a pos) (tNot tt) (dNot tt2) := ⟨pt_not h.pt, fun ρ μ T F q I σ H hA hS Q g1 g2 => h.re ρ μ F T q I σ H hA hS _ g2 g1⟩
theorem RT.and [Jx] (h : RT K tt tt2) (g : RT K tu tu2) : RT K (tAnd tt tu) (dAnd tt2 tu2) := fun ρ μ T F q I σ H hA hS Q g1 g2 =>
  h ρ μ _ F q I σ H hA hS _ (fun μ1 I1 H1 q1 a1 k1 => by
    show tu σ H1 Q
    exact g ρ μ1 T F q1 I1 σ H1 a1 (hS.mono k1.ex) Q (g1.past k1) (g2.past k1)) g2
theorem RT.or [Jx] (h : RT K tt tt2) (g : RT K tu tu2) : RT K (tOr tt tu) (dOr tt2 tu2) := fun ρ μ T F q I σ H hA hS Q g1 g2 =>
  h ρ μ T _ q I σ H hA hS _ g1 (fun μ1 I1 H1 q1 a1 k1 => by
    show tu σ H1 Q
    exact g ρ μ1 T F q1 I1 σ H1 a1 (hS.mono k1.ex) Q (g1.past k1) (g2.past k1))
theorem k_and1 [Jx] (h : PT2 X a tt tt2) : PW2 X (.BoolOp .And [a] pos) tt tt2 := ⟨pw_and1 h.pt, h.re⟩
theorem k_or1 [Jx] (h : PT2 X a tt tt2) : PW2 X (.BoolOp .Or [a] pos) tt tt2 := ⟨pw_or1 h.pt, h.re⟩
theorem k_and [Jx] (h : PT2 X a tt tt2) (g : PW2 X (.BoolOp .And (b :: rest) pos) tu tu2) : PW2 X (.BoolOp .And (a :: b :: rest) pos) (tAnd tt tu) (dAnd tt2 tu2) := ⟨pw_and h.pt g.pw, RT.and h.re g.re⟩
theorem k_or [Jx] (h : PT2 X a tt tt2) (g : PW2 X (.BoolOp .Or (b :: rest) pos) tu tu2) : PW2 X (.BoolOp .Or (a :: b :: rest) pos) (tOr tt tu) (dOr tt2 tu2) := ⟨pw_or h.pt g.pw, RT.or h.re g.re⟩
theorem t_w [Jx] (h : PW2 X a tt tt2) : PT2 X a tt tt2 := ⟨h.pw.pt, h.re⟩
/-- as values -/
def dAndV (ta tb : TE2) : TE2 := fun ρ μ Q => ta ρ μ fun d μ1 => ∃ b, d = .bl b ∧ Br b (tb ρ μ1 Q) (Q (.bl false) μ1)
def dOrV (ta tb : TE2) : TE2 := fun ρ μ Q => ta ρ μ fun d μ1 => ∃ b, d = .bl b ∧ Br b (Q (.bl true) μ1) (tb ρ μ1 Q)
def dNotV (ta : TE2) : TE2 := fun ρ μ Q => ta ρ μ fun d μ1 => ∃ b, d = .bl b ∧ Q (.bl (!b)) μ1
theorem w_andV (h : ta2 ρ μ (dTail (fun μ1 => tb2 ρ μ1 Q) (fun μ1 => Q (.bl false) μ1))) : dAndV ta2 tb2 ρ μ Q := h
theorem w_orV (h : ta2 ρ μ (dTail (fun μ1 => Q (.bl true) μ1) (fun μ1 => tb2 ρ μ1 Q))) : dOrV ta2 tb2 ρ μ Q := h
def dNotK (Q : DK) : DK := fun d μ1 => ∃ b, d = .bl b ∧ Q (.bl (!b)) μ1
theorem w_notK {b : Bool} (q : Q (.bl (!b)) μ) : dNotK Q (.bl b) μ := ⟨b, rfl, q⟩
theorem w_notV (h : ta2 ρ μ (dNotK Q)) : dNotV ta2 ρ μ Q := h
theorem e_one [Jx] {op} (h : PE2 X a ta ta2) : PE2 X (.BoolOp op [a] pos) ta ta2 := ⟨pe_one h.pe, h.re⟩
theorem e_and [Jx] (ha : PE2 X a ta ta2) (hb : PE2 X (.BoolOp .And (b :: rest) pos) tb tb2) : PE2 X (.BoolOp .And (a :: b :: rest) pos) (tAndV ta tb) (dAndV ta2 tb2) :=
  ⟨pe_and ha.pe hb.pe, fun ρ μ Q2 q I σ H hA hS Q g => ha.re ρ μ _ q I σ H hA hS _ fun d μ1 v I1 H1 q1 a1 k1 r1 => by
    obtain ⟨b, rfl, q1⟩ := q1
    refine ⟨b, r1, ?_⟩
    cases b with
    | true => exact hb.re ρ μ1 Q2 (q1.1 rfl) I1 σ H1 a1 (hS.mono k1.ex) Q (g.past k1)
    | false => exact g _ μ1 _ I1 H1 (q1.2 rfl) a1 k1 rfl⟩
theorem e_or [Jx] (ha : PE2 X a ta ta2) (hb : PE2 X (.BoolOp .Or (b :: rest) pos) tb tb2) : PE2 X (.BoolOp .Or (a :: b :: rest) pos) (tOrV ta tb) (dOrV ta2 tb2) :=
  ⟨pe_or ha.pe hb.pe, fun ρ μ Q2 q I σ H hA hS Q g => ha.re ρ μ _ q I σ H hA hS _ fun d μ1 v I1 H1 q1 a1 k1 r1 => by
    obtain ⟨b, rfl, q1⟩ := q1
    refine ⟨b, r1, ?_⟩
    cases b with
    | true => exact g _ μ1 _ I1 H1 (q1.1 rfl) a1 k1 rfl
    | false => exact hb.re ρ μ1 Q2 (q1.2 rfl) I1 σ H1 a1 (hS.mono k1.ex) Q (g.past k1)⟩
theorem e_not [Jx] (ha : PE2 X a ta ta2) : PE2 X (.UnaryOp .Not a pos) (tNotV ta) (dNotV ta2) :=
  ⟨pe_not ha.pe, fun ρ μ Q2 q I σ H hA hS Q g => ha.re ρ μ _ q I σ H hA hS _ fun d μ1 v I1 H1 q1 a1 k1 r1 => by
    obtain ⟨b, rfl, q1⟩ := q1
    exact ⟨b, r1, g _ μ1 _ I1 H1 q1 a1 k1 rfl⟩⟩
def dIf (t : TT2) (ta tb : TE2) : TE2 := fun ρ μ Q => t ρ μ (fun μ1 => ta ρ μ1 Q) (fun μ1 => tb ρ μ1 Q)
theorem w_if (h : tt2 ρ μ (fun μ1 => ta2 ρ μ1 Q) (fun μ1 => tb2 ρ μ1 Q)) : dIf tt2 ta2 tb2 ρ μ Q := h
theorem e_if [Jx] (hc : PT2 X c tt tt2) (ha : PE2 X a ta ta2) (hb : PE2 X b tb tb2) : PE2 X (.IfExp c a b pos) (tIf tt ta tb) (dIf tt2 ta2 tb2) :=
  ⟨pe_ifExp hc.pt ha.pe hb.pe, fun ρ μ Q2 q I σ H hA hS Q g => hc.re ρ μ _ _ q I σ H hA hS _
    (fun μ1 I1 H1 q1 a1 k1 => by
      show ta σ H1 Q
      exact ha.re ρ μ1 Q2 q1 I1 σ H1 a1 (hS.mono k1.ex) Q (g.past k1))
    (fun μ1 I1 H1 q1 a1 k1 => by
      show tb σ H1 Q
      exact hb.re ρ μ1 Q2 q1 I1 σ H1 a1 (hS.mono k1.ex) Q (g.past k1))⟩
/-- a < b < c -/
def dChain (r r' : DR2) (ta tb tc : TE2) : TE2 := fun ρ μ Q => ta ρ μ fun x μ1 => tb ρ μ1 fun y μ2 => r x y μ2 (dTail (fun μ3 => tc ρ μ3 fun z μ4 => r' y z μ4 Q) (fun μ3 => Q (.bl false) μ3))
theorem w_chain {r r' : DR2} (h : ta2 ρ μ fun x μ1 => tb2 ρ μ1 fun y μ2 => r x y μ2 (dTail (fun μ3 => tc2 ρ μ3 fun z μ4 => r' y z μ4 Q) (fun μ3 => Q (.bl false) μ3))) : dChain r r' ta2 tb2 tc2 ρ μ Q := h
theorem re_chain [Jx] {r r' : R2} {r2 r2' : DR2} (hr : RR K r r2) (hr' : RR K r' r2') (ha : RE K ta ta2) (hb : RE K tb tb2) (hc : RE K tc tc2) : RE K (tChain r r' ta tb tc) (dChain r2 r2' ta2 tb2 tc2) := fun ρ μ Q2 q I σ H hA hS Q g =>
  ha ρ μ _ q I σ H hA hS _ fun x μ1 vx I1 H1 q1 a1 k1 r1 => hb ρ μ1 _ q1 I1 σ H1 a1 (hS.mono k1.ex) _ fun y μ2 vy I2 H2 q2 a2 k2 r2w =>
    hr x y μ2 _ q2 I2 H2 vx vy a2 (r1.mono k2.ex) r2w _ fun d μ3 v I3 H3 q3 a3 k3 r3 => by
      obtain ⟨b, rfl, q3⟩ := q3
      refine ⟨b, r3, ?_⟩
      cases b with
      | true => exact hc ρ μ3 _ (q3.1 rfl) I3 σ H3 a3 (hS.mono ((k1.trans k2).trans k3).ex) _ fun z μ4 vz I4 H4 q4 a4 k4 r4 => hr' y z μ4 Q2 q4 I4 H4 vy vz a4 (r2w.mono (k3.trans k4).ex) r4 Q (g.past (((k1.trans k2).trans k3).trans k4))
      | false => exact g _ μ3 _ I3 H3 (q3.2 rfl) a3 ((k1.trans k2).trans k3) rfl
theorem e_chain [Jx] {op op' : CmpOp} {r r' : R2} {r2 r2' : DR2} (ho : OpR X (compareOp op) r) (ho' : OpR X (compareOp op') r') (hr : RR X.K r r2) (hr' : RR X.K r' r2') (ha : PE2 X a ta ta2) (hb : PE2 X b tb tb2) (hc : PE2 X c tc tc2)
    (hm : lastMarks [op, op'] [b, c] = false := by with_unfolding_all rfl) : PE2 X (.Compare a [op, op'] [b, c] pos) (tChain r r' ta tb tc) (dChain r2 r2' ta2 tb2 tc2) :=
  ⟨pe_chain ho ho' ha.pe hb.pe hc.pe hm, re_chain hr hr' ha.re hb.re hc.re⟩
theorem rr_lt [Jx] : RR K rvLt dLt := rr_I0
theorem rr_le [Jx] : RR K rvLe dLe := rr_I0
/-! branches -/
theorem br_t {A B : Prop} (h : A) : Br true A B := ⟨fun _ => h, fun z => (by cases z)⟩
theorem br_f {A B : Prop} (h : B) : Br false A B := ⟨fun z => (by cases z), fun _ => h⟩
theorem br_dec {p : Prop} [Decidable p] {A B : Prop} (h1 : p → A) (h2 : ¬ p → B) : Br (decide p) A B := ⟨fun z => h1 (of_decide_eq_true z), fun z => h2 (of_decide_eq_false z)⟩
theorem br_not {b : Bool} {A B : Prop} (h : Br b B A) : Br (!b) A B := by cases b <;> first | exact br_t (h.2 rfl) | exact br_f (h.1 rfl)
theorem br_and {a b : Bool} {A B : Prop} (h : Br a (Br b A B) B) : Br (a && b) A B := by cases a <;> cases b <;> first | exact br_f (h.2 rfl) | exact h.1 rfl
theorem br_or {a b : Bool} {A B : Prop} (h : Br a A (Br b A B)) : Br (a || b) A B := by cases a <;> cases b <;> first | exact br_t (h.1 rfl) | exact h.2 rfl
theorem br_op {b : Bool} {A B : Prop} (h1 : b = true → A) (h2 : b = false → B) : Br b A B := ⟨h1, h2⟩
theorem br_T {b : Bool} {A B : Prop} (e : b = true) (h : A) : Br b A B := ⟨fun _ => h, fun z => by rw [e] at z; cases z⟩
theorem br_F {b : Bool} {A B : Prop} (e : b = false) (h : B) : Br b A B := ⟨fun z => (by rw [e] at z; cases z), fun _ => h⟩
theorem br_decT {p : Prop} [Decidable p] {A B : Prop} (e : p) (h : A) : Br (decide p) A B := br_T (decide_eq_true e) h
theorem br_decF {p : Prop} [Decidable p] {A B : Prop} (e : ¬ p) (h : B) : Br (decide p) A B := br_F (decide_eq_false e) h

/-! ### argument lists, displays -/
def dNil : TA2 := fun _ μ Q => Q [] μ
def dCons (ta : TE2) (tr : TA2) : TA2 := fun ρ μ Q => ta ρ μ fun x μ1 => tr ρ μ1 fun xs μ2 => Q (x :: xs) μ2
theorem w_nil {QA : List D → Mu → Prop} (q : QA [] μ) : dNil ρ μ QA := q
theorem w_cons {QA : List D → Mu → Prop} (h : ta2 ρ μ fun x μ1 => tl2 ρ μ1 fun xs μ2 => QA (x :: xs) μ2) : dCons ta2 tl2 ρ μ QA := h
theorem a_nil [Jx] : PA2 X [] tNil dNil := ⟨pa_nil, fun ρ μ Q2 q I σ H hA hS Q g => g [] μ [] I H q hA Kp.refl rfl⟩
theorem a_cons [Jx] (ha : PE2 X e te te2) (hr : PA2 X es tl tl2) (hs : starEach (e :: es) X.env = (false, eval e X.env) :: starEach es X.env := by rfl) : PA2 X (e :: es) (tCons te tl) (dCons te2 tl2) :=
  ⟨pa_cons ha.pe hr.pa hs, fun ρ μ Q2 q I σ H hA hS Q g => ha.re ρ μ _ q I σ H hA hS _ fun x μ1 vx I1 H1 q1 a1 k1 r1 => hr.re ρ μ1 _ q1 I1 σ H1 a1 (hS.mono k1.ex) _ fun xs μ2 vs I2 H2 q2 a2 k2 r2 =>
    g (x :: xs) μ2 (vx :: vs) I2 H2 q2 a2 (k1.trans k2) (RpA.cons (r1.mono k2.ex) r2)⟩
def dTup (t : TA2) : TE2 := fun ρ μ Q => t ρ μ fun ds μ1 => ds.length ≤ sizeLine ∧ Q (.tup ds) μ1
def dTupK (Q : DK) : List D → Mu → Prop := fun ds μ1 => ds.length ≤ sizeLine ∧ Q (.tup ds) μ1
theorem w_tup (h : tl2 ρ μ (dTupK Q)) : dTup tl2 ρ μ Q := h
theorem w_tupK {ds : List D} (z : ds.length ≤ sizeLine) (q : Q (.tup ds) μ) : dTupK Q ds μ := ⟨z, q⟩
def dLst (t : TA2) : TE2 := fun ρ μ Q => t ρ μ fun ds μ1 => dNewL ds μ1 Q
theorem w_lst (h : tl2 ρ μ fun ds μ1 => dNewL ds μ1 Q) : dLst tl2 ρ μ Q := h
theorem e_tup [Jx] {x1} (h : PA2 X es tl tl2) : PE2 X (.Tuple es x1 pos) (tTup tl) (dTup tl2) :=
  ⟨pe_tup h.pa, fun ρ μ Q2 q I σ H hA hS Q g => h.re ρ μ _ q I σ H hA hS _ fun ds μ1 vs I1 H1 q1 a1 k1 r1 => ⟨by rw [r1.length]; exact q1.1, go_newT q1.2 a1 r1 (g.past k1)⟩⟩
theorem e_lst [Jx] (h : PA2 X es tl tl2) : PE2 X (.List es pos) (tLst tl) (dLst tl2) :=
  ⟨pe_lst h.pa, fun ρ μ Q2 q I σ H hA hS Q g => h.re ρ μ _ q I σ H hA hS _ fun ds μ1 vs I1 H1 q1 a1 k1 r1 => ⟨by rw [r1.length]; exact q1.1, go_newL q1 a1 r1 (g.past k1)⟩⟩
/-- a list that stays from now on -/
def dFz (t : TE2) : TE2 := fun ρ μ Q => t ρ μ fun d μ1 => ∃ p ds, d = .adr p ∧ μ1 p = some (.lst ds) ∧ Q (.lst ds) (mdel μ1 p)
def dFzK (Q : DK) : DK := fun d μ1 => ∃ p ds, d = .adr p ∧ μ1 p = some (.lst ds) ∧ Q (.lst ds) (mdel μ1 p)
theorem w_fz (h : te2 ρ μ (dFzK Q)) : dFz te2 ρ μ Q := h
theorem w_fzK {p : Addr} {ds : List D} (h : μ p = some (.lst ds)) (q : Q (.lst ds) (mdel μ p)) : dFzK Q (.adr p) μ := ⟨p, ds, rfl, h, q⟩
/-- .. just made -/
theorem w_fzN {p : Addr} {ds : List D} (h : μ p = none) (q : Q (.lst ds) μ) : dFzK Q (.adr p) (mup μ p (.lst ds)) := ⟨p, ds, rfl, mup_same, by rw [mdel_mup h]; exact q⟩
theorem e_fz [Jx] (h : PE2 X e te te2) : PE2 X e te (dFz te2) :=
  ⟨h.pe, fun ρ μ Q2 q I σ H hA hS Q g => h.re ρ μ _ q I σ H hA hS _ fun d μ1 v I1 H1 q1 a1 k1 r1 => by
    obtain ⟨p, ds, rfl, hp, q1⟩ := q1
    obtain ⟨hI, ho, h1, vs, rfl, h2⟩ := a1.own p _ hp
    exact g _ _ _ _ _ q1 (a1.frz hp h1) (k1.trans (Kp.frz hp hI)) ⟨p, vs, r1, upd_same, h2.mono (Exx.new hI)⟩⟩

/-! ### subscripts, slices -/
/-- an item of a list, a tuple, a text -/
def dIx : DR2 := fun x y μ Q => (∃ ds i d, asS μ x = some ds ∧ y = .int i ∧ atI ds i = some d ∧ Q d μ) ∨ ∃ z i c, x = .str z ∧ y = .int i ∧ z.length ≤ sizeLine ∧ atI z.cps.toList i = some c ∧ Q (.str ⟨#[c]⟩) μ
theorem w_ixS {x : D} {ds : List D} {i : Int} {d : D} (h : asS μ x = some ds) (e : atI ds i = some d) (q : Q d μ) : dIx x (.int i) μ Q := .inl ⟨ds, i, d, h, rfl, e, q⟩
theorem w_ixT {ds : List D} {i : Int} {d : D} (e : atI ds i = some d) (q : Q d μ) : dIx (.tup ds) (.int i) μ Q := .inl ⟨ds, i, d, rfl, rfl, e, q⟩
theorem w_ixL {ds : List D} {i : Int} {d : D} (e : atI ds i = some d) (q : Q d μ) : dIx (.lst ds) (.int i) μ Q := .inl ⟨ds, i, d, rfl, rfl, e, q⟩
theorem w_ixC {z : Str} {i : Int} {c : Nat} (h : z.length ≤ sizeLine) (e : atI z.cps.toList i = some c) (q : Q (.str ⟨#[c]⟩) μ) : dIx (.str z) (.int i) μ Q := .inr ⟨z, i, c, rfl, rfl, h, e, q⟩
theorem RpA.atI {I : Hp} {ds : List D} {vs : List V} {i : Int} {d : D} (r : RpA K I ds vs) (h : L2.atI ds i = some d) : ∃ v, L2.atI vs i = some v ∧ Rp K I d v := by
  unfold L2.atI at h ⊢
  rw [r.length]
  cases q : ixN ds.length i with
  | none => rw [q] at h; cases h
  | some j => rw [q] at h; exact r.get h
theorem rr_ix [Jx] : RR K (rIx K) dIx := fun x y μ Q2 q I H vx vy hA rx ry Q k => by
  rcases q with ⟨ds, i, d, h, rfl, e, q⟩ | ⟨z, i, c, rfl, rfl, h, e, q⟩
  · obtain ⟨p, vs, e1, hs, r⟩ := asS_at hA rx h
    obtain ⟨v, e2, r2⟩ := r.atI e
    have fin := k _ _ _ _ _ q hA Kp.refl r2
    rcases hs with hs | hs
    · exact .inl ⟨p, vs, i, v, e1, ry, hs, e2, fin⟩
    · exact .inr (.inl ⟨p, vs, i, v, e1, ry, hs, e2, fin⟩)
  · exact .inr (.inr ⟨z, i, c, rx, ry, h, e, k _ _ _ _ _ q hA Kp.refl rfl⟩)
theorem e_ix [Jx] (ha : PE2 X a ta ta2) (hb : PE2 X b tb tb2) (hs : PlainIx b) : PE2 X (.Subscript a b pos) (tOp (rIx X.K) ta tb) (dOp dIx ta2 tb2) := ⟨pe_ix ix_seq ha.pe hb.pe hs, re_op rr_ix ha.re hb.re⟩
/-- an item of the script -/
def dIxScr : DR2 := fun x y μ Q => ∃ ns i n, x = .scr ns ∧ y = .int i ∧ atI ns i = some n ∧ Q (.int n) μ
theorem w_ixScr {ns : List Int} {i n : Int} (e : atI ns i = some n) (q : Q (.int n) μ) : dIxScr (.scr ns) (.int i) μ Q := ⟨ns, i, n, rfl, rfl, e, q⟩
theorem atI_map {ns : List Int} {i n : Int} (h : atI ns i = some n) : atI (ns.map V.int) i = some (.int n) := by
  unfold atI at h ⊢
  rw [List.length_map]
  cases q : ixN ns.length i with
  | none => rw [q] at h; cases h
  | some j =>
    rw [q] at h
    show (ns.map V.int)[j]? = _
    rw [List.getElem?_map, show ns[j]? = some n from h]; rfl
theorem e_ixScr [Jx] (ha : PE2 X a ta ta2) (hb : PE2 X b tb tb2) (hs : PlainIx b) : PE2 X (.Subscript a b pos) (tOp (rIxL X.K) ta tb) (dOp dIxScr ta2 tb2) := ⟨pe_ix ix_list ha.pe hb.pe hs, re_op (fun x y μ Q2 q I H vx vy hA rx ry Q k => by
  obtain ⟨ns, i, n, rfl, rfl, e, q⟩ := q
  obtain ⟨p, e1, hs⟩ := rx
  exact ⟨p, _, i, _, e1, ry, (show Exx I H from hA.sub).sql hs, atI_map e, k _ _ _ _ _ q hA Kp.refl rfl⟩) ha.re hb.re⟩
/-- slices -/
abbrev DSl := D → Option Int → Option Int → Mu → DK → Prop
abbrev TO2 := Env2 → Mu → (Option Int → Mu → Prop) → Prop
def RO [Jx] (K : PySem.W.Frag) (to : TO) (t : TO2) : Prop := ∀ ρ μ Q2, t ρ μ Q2 → ∀ I σ H, At K μ I H → Slots K I ρ σ → ∀ Q : Option Int → Hp → Prop, (∀ i μ' I' H', Q2 i μ' → At K μ' I' H' → Kp I μ H I' μ' H' → Q i H') → to σ H Q
structure PO2 [Jx] (X : Cx) (e : Option Expr) (to : TO) (t : TO2) : Prop where
  po : PO X e to
  re : RO X.K to t
def dNoPart : TO2 := fun _ μ Q => Q none μ
def dPart (t : TE2) : TO2 := fun ρ μ Q => t ρ μ fun d μ1 => ∃ i, d = .int i ∧ Q (some i) μ1
def dPartK (Q : Option Int → Mu → Prop) : DK := fun d μ1 => ∃ i, d = .int i ∧ Q (some i) μ1
theorem w_noPart {QO : Option Int → Mu → Prop} (q : QO none μ) : dNoPart ρ μ QO := q
theorem w_part {QO : Option Int → Mu → Prop} (h : te2 ρ μ (dPartK QO)) : dPart te2 ρ μ QO := h
theorem w_partK {QO : Option Int → Mu → Prop} {i : Int} (q : QO (some i) μ) : dPartK QO (.int i) μ := ⟨i, rfl, q⟩
theorem o_none [Jx] : PO2 X none tNoPart dNoPart := ⟨po_none, fun ρ μ Q2 q I σ H hA hS Q g => g _ _ _ _ q hA Kp.refl⟩
theorem o_some [Jx] (h : PE2 X e te te2) : PO2 X (some e) (tPart te) (dPart te2) := ⟨po_some h.pe, fun ρ μ Q2 q I σ H hA hS Q g => h.re ρ μ _ q I σ H hA hS _ fun d μ1 v I1 H1 q1 a1 k1 r1 => by
  obtain ⟨i, rfl, q1⟩ := q1
  exact ⟨i, r1, g _ _ _ _ q1 a1 k1⟩⟩
def cutD (ds : List D) (lo hi : Option Int) : List D := (ds.drop (HT.sIx ds.length 0 lo)).take (HT.sIx ds.length ds.length hi - HT.sIx ds.length 0 lo)
def dSl (te : TE2) (tl th : TO2) : TE2 := fun ρ μ Q => te ρ μ fun x μ1 => tl ρ μ1 fun lo μ2 => th ρ μ2 fun hi μ3 =>
  (∃ ds, x = .tup ds ∧ Q (.tup (cutD ds lo hi)) μ3) ∨ (∃ ds, asL μ3 x = some ds ∧ ∀ p, μ3 p = none → Q (.adr p) (mup μ3 p (.lst (cutD ds lo hi)))) ∨ ∃ z, x = .str z ∧ z.length ≤ sizeLine ∧ Q (.str (cutS z lo hi)) μ3
def dCut (x : D) (lo hi : Option Int) (μ3 : Mu) (Q : DK) : Prop :=
  (∃ ds, x = .tup ds ∧ Q (.tup (cutD ds lo hi)) μ3) ∨ (∃ ds, asL μ3 x = some ds ∧ ∀ p, μ3 p = none → Q (.adr p) (mup μ3 p (.lst (cutD ds lo hi)))) ∨ ∃ z, x = .str z ∧ z.length ≤ sizeLine ∧ Q (.str (cutS z lo hi)) μ3
theorem w_sl {tlo thi : TO2} (h : te2 ρ μ fun x μ1 => tlo ρ μ1 fun lo μ2 => thi ρ μ2 fun hi μ3 => dCut x lo hi μ3 Q) : dSl te2 tlo thi ρ μ Q := h
theorem w_cutT {ds : List D} {lo hi : Option Int} (q : Q (.tup (cutD ds lo hi)) μ) : dCut (.tup ds) lo hi μ Q := .inl ⟨ds, rfl, q⟩
theorem w_cutL {x : D} {ds : List D} {lo hi : Option Int} (h : asL μ x = some ds) (q : ∀ p, μ p = none → Q (.adr p) (mup μ p (.lst (cutD ds lo hi)))) : dCut x lo hi μ Q := .inr (.inl ⟨ds, h, q⟩)
theorem w_cutS {z : Str} {lo hi : Option Int} (h : z.length ≤ sizeLine) (q : Q (.str (cutS z lo hi)) μ) : dCut (.str z) lo hi μ Q := .inr (.inr ⟨z, rfl, h, q⟩)
theorem RpA.cut {I : Hp} {ds : List D} {vs : List V} (r : RpA K I ds vs) (lo hi : Option Int) : RpA K I (cutD ds lo hi) (cutV vs lo hi) := by
  unfold cutD cutV
  rw [r.length]
  exact (r.drop _).take _
/-- a slice of anything -/
def rSlAll (K : PySem.W.Frag) : V → Option Int → Option Int → Hp → VK → Prop := fun x lo hi H Q => rSlA K x lo hi H Q ∨ rSlL K x lo hi H Q ∨ rSlS x lo hi H Q
theorem sl_all : SlR X (rSlAll X.K) := by
  intro pins s σ H x v vl vu lo hi sl Q I rx hs pl pu h
  rcases h with h | h | h
  · exact sl_tupA pins s σ H x v vl vu lo hi sl Q I rx hs pl pu h
  · exact sl_list pins s σ H x v vl vu lo hi sl Q I rx hs pl pu h
  · exact sl_str pins s σ H x v vl vu lo hi sl Q I rx hs pl pu h
theorem e_slice [Jx] {lo hi : Option Expr} {p2 : Pos} {tlo thi : TO} {tlo2 thi2 : TO2} (he : PE2 X e te te2) (hl : PO2 X lo tlo tlo2) (hh : PO2 X hi thi thi2) : PE2 X (.Subscript e (.Slice lo hi none p2) pos) (tSl (rSlAll X.K) te tlo thi) (dSl te2 tlo2 thi2) :=
  ⟨pe_slice sl_all he.pe hl.po hh.po, fun ρ μ Q2 q I σ H hA hS Q g => he.re ρ μ _ q I σ H hA hS _ fun x μ1 v I1 H1 q1 a1 k1 r1 => hl.re ρ μ1 _ q1 I1 σ H1 a1 (hS.mono k1.ex) _ fun l μ2 I2 H2 q2 a2 k2 =>
    hh.re ρ μ2 _ q2 I2 σ H2 a2 (hS.mono (k1.trans k2).ex) _ fun u μ3 I3 H3 q3 a3 k3 => by
      have kk := (k1.trans k2).trans k3
      have r3 := r1.mono (k2.trans k3).ex
      rcases q3 with ⟨ds, rfl, q3⟩ | ⟨ds, h, q3⟩ | ⟨z, rfl, h, q3⟩
      · obtain ⟨p, vs, e1, h1, h2⟩ := r3
        refine .inl ⟨p, vs, e1, (show Exx I3 H3 from a3.sub).sqt h1, fun w => ?_, fun _ => go_newT q3 a3 (h2.cut _ _) (g.past kk)⟩
        refine g _ _ _ _ _ q3 a3 kk ⟨p, vs, rfl, h1, ?_⟩
        have e : cutD ds l u = ds := by
          unfold cutD
          rw [h2.length] at w
          rw [w.1, w.2, Nat.sub_zero, List.drop_zero, List.take_length]
        rw [e]; exact h2
      · obtain ⟨p, vs, e1, h1, h2⟩ := asL_at a3 r3 h
        refine .inr (.inl ⟨p, vs, e1, SqL.of h1, fun p' hp => ?_⟩)
        exact g _ _ _ _ _ (q3 p' (a3.noM hp)) (a3.got hp ⟨_, rfl, h2.cut _ _⟩) (kk.trans (Kp.got hp)) rfl
      · exact .inr (.inr ⟨z, r3, h, g _ _ _ _ _ q3 a3 kk rfl⟩)⟩
/-- xs[::-1] of a list -/
def dRevL (t : TE2) : TE2 := fun ρ μ Q => t ρ μ fun x μ1 => ∃ ds, asL μ1 x = some ds ∧ ∀ p, μ1 p = none → Q (.adr p) (mup μ1 p (.lst ds.reverse))
def dRevK (Q : DK) : DK := fun x μ1 => ∃ ds, asL μ1 x = some ds ∧ ∀ p, μ1 p = none → Q (.adr p) (mup μ1 p (.lst ds.reverse))
theorem w_revL (h : te2 ρ μ (dRevK Q)) : dRevL te2 ρ μ Q := h
theorem w_revK {x : D} {ds : List D} (h : asL μ x = some ds) (q : ∀ p, μ p = none → Q (.adr p) (mup μ p (.lst ds.reverse))) : dRevK Q x μ := ⟨ds, h, q⟩
theorem e_revL [Jx] {k : Nat} {p1 p2 p3 : Pos} (he : PE2 X e te te2) : PE2 X (.Subscript e (.Slice none none (some (.UnaryOp .USub (.Constant (.int 1) k p1) p2)) p3) pos) (tRevL X.K te) (dRevL te2) :=
  ⟨pe_revL he.pe, fun ρ μ Q2 q I σ H hA hS Q g => he.re ρ μ _ q I σ H hA hS _ fun x μ1 v I1 H1 q1 a1 k1 r1 => by
    obtain ⟨ds, h, q1⟩ := q1
    obtain ⟨p, vs, e1, h1, h2⟩ := asL_at a1 r1 h
    exact ⟨p, vs, e1, SqL.of h1, fun p' hp => g _ _ _ _ _ (q1 p' (a1.noM hp)) (a1.got hp ⟨_, rfl, h2.reverse⟩) (k1.trans (Kp.got hp)) rfl⟩⟩
end
end Y

set_option Elab.async false
set_option linter.all false
set_option maxRecDepth 100000
set_option maxHeartbeats 4000000
namespace Y
open PySem PySem.Spec PyProof.Rows L2
section
variable {X : Cx} {K : PySem.W.Frag} {a b c e o : Expr} {es rest : List Expr} {ta tb tc te to : TE} {ta2 tb2 tc2 te2 to2 : TE2} {pos apos cpos p : Pos} {tt tu : TT} {tt2 tu2 : TT2} {tl : TA} {tl2 : TA2} {x : Str}
variable {ρ : Env2} {μ : Mu} {Q : DK} {T F : Mu → Prop}

/-! ### built-ins by their names -/
abbrev DRC := List D → Mu → DK → Prop
def RC [Jx] (K : PySem.W.Frag) (r : List V → Hp → VK → Prop) (r2 : DRC) : Prop := ∀ xs μ Q2, r2 xs μ Q2 → ∀ I H vs, At K μ I H → RpA K I xs vs → ∀ Q : VK, Go K I μ H Q2 Q → r vs H Q
def dCB (r : DRC) (t : TA2) : TE2 := fun ρ μ Q => t ρ μ fun ds μ1 => r ds μ1 Q
theorem w_cb {r : DRC} (h : tl2 ρ μ fun ds μ1 => r ds μ1 Q) : dCB r tl2 ρ μ Q := h
theorem re_cb [Jx] {r : List V → Hp → VK → Prop} {r2 : DRC} (hr : RC K r r2) (h : RA K tl tl2) : RE K (tCB r tl) (dCB r2 tl2) := fun ρ μ Q2 q I σ H hA hS Q g =>
  h ρ μ _ q I σ H hA hS _ fun ds μ1 vs I1 H1 q1 a1 k1 r1 => hr ds μ1 Q2 q1 I1 H1 vs a1 r1 Q (g.past k1)
theorem e_cb [Jx] {id : String} {r : List V → Hp → VK → Prop} {r2 : DRC} (hc : CallR X (.builtin id) r) (hr : RC X.K r r2) (hg : Gl X x) (hm : X.mg x = none) (hv : bootBuiltins x = some (.builtin id)) (ha : PA2 X (e :: es) tl tl2) (hn : x ≠ "__name__" := by decide) (hdb : (x == ("__debug__" : Str)) = false := by decide)
    (he : starEach (e :: es) X.env = (false, eval e X.env) :: starEach es X.env := by rfl) (hpl : (backTo pos (starEach es X.env)).any (·.1) = false := by rfl) :
    PE2 X (.Call (.Name x p) (e :: es) [] pos) (tCB r tl) (dCB r2 tl2) := ⟨pe_callB hc hg hm hv ha.pa hn hdb he hpl, re_cb hr ha.re⟩
theorem e_cty [Jx] {T : String} {r : List V → Hp → VK → Prop} {r2 : DRC} (hc : CallR X (.type T) r) (hr : RC X.K r r2) (hg : Gl X x) (hm : X.mg x = none) (hv : bootBuiltins x = some (.type T)) (ha : PA2 X (e :: es) tl tl2) (hn : x ≠ "__name__" := by decide) (hdb : (x == ("__debug__" : Str)) = false := by decide)
    (he : starEach (e :: es) X.env = (false, eval e X.env) :: starEach es X.env := by rfl) (hpl : (backTo pos (starEach es X.env)).any (·.1) = false := by rfl) :
    PE2 X (.Call (.Name x p) (e :: es) [] pos) (tCB r tl) (dCB r2 tl2) := ⟨pe_callTy hc hg hm hv ha.pa hn hdb he hpl, re_cb hr ha.re⟩
/-- len -/
def dLen : DRC := fun xs μ Q => (∃ z, xs = [.str z] ∧ z.length ≤ sizeLine ∧ Q (.int z.length) μ) ∨ (∃ ns, xs = [.scr ns] ∧ Q (.int ns.length) μ) ∨ ∃ x ds, xs = [x] ∧ asS μ x = some ds ∧ Q (.int ds.length) μ
theorem w_lenS {z : Str} (h : z.length ≤ sizeLine) (q : Q (.int z.length) μ) : dLen [.str z] μ Q := .inl ⟨z, rfl, h, q⟩
theorem w_lenR {ns : List Int} (q : Q (.int ns.length) μ) : dLen [.scr ns] μ Q := .inr (.inl ⟨ns, rfl, q⟩)
theorem w_lenL {x : D} {ds : List D} (h : asS μ x = some ds) (q : Q (.int ds.length) μ) : dLen [x] μ Q := .inr (.inr ⟨x, ds, rfl, h, q⟩)
theorem w_lenT {ds : List D} (q : Q (.int ds.length) μ) : dLen [.tup ds] μ Q := .inr (.inr ⟨.tup ds, ds, rfl, rfl, q⟩)
abbrev rvLen (K : PySem.W.Frag) : List V → Hp → VK → Prop := fun xs H Q => ∃ x n, xs = [x] ∧ LenV K x H n ∧ Q (.int n) H
theorem RpA.one_inv {I : Hp} {d : D} {vs : List V} (r : RpA K I [d] vs) : ∃ v, vs = [v] ∧ Rp K I d v := by
  obtain ⟨v, w, rfl, h1, h2⟩ := r
  cases (show w = [] from h2)
  exact ⟨v, rfl, h1⟩
theorem RpA.two_inv {I : Hp} {d d' : D} {vs : List V} (r : RpA K I [d, d'] vs) : ∃ v v', vs = [v, v'] ∧ Rp K I d v ∧ Rp K I d' v' := by
  obtain ⟨v, w, rfl, h1, h2⟩ := r
  obtain ⟨v', rfl, h3⟩ := RpA.one_inv h2
  exact ⟨v, v', rfl, h1, h3⟩
theorem rc_len [Jx] : RC K (rvLen K) dLen := fun xs μ Q2 q I H vs hA r Q k => by
  rcases q with ⟨z, rfl, h, q⟩ | ⟨ns, rfl, q⟩ | ⟨x, ds, rfl, h, q⟩
  · obtain ⟨v, rfl, e⟩ := r.one_inv
    cases (show v = _ from e)
    exact ⟨_, _, rfl, ⟨h, rfl⟩, k _ _ _ _ _ q hA Kp.refl rfl⟩
  · obtain ⟨v, rfl, e⟩ := r.one_inv
    obtain ⟨p, rfl, h⟩ := e
    refine ⟨_, _, rfl, .inl ⟨_, (show Exx I H from hA.sub).sql h, rfl⟩, ?_⟩
    rw [List.length_map]
    exact k _ _ _ _ _ q hA Kp.refl rfl
  · obtain ⟨v, rfl, e⟩ := r.one_inv
    obtain ⟨p, ws, rfl, h1, h2⟩ := asS_at hA e h
    refine ⟨_, ws.length, rfl, ?_, ?_⟩
    · rcases h1 with h1 | h1
      · exact .inl ⟨_, h1, rfl⟩
      · exact .inr ⟨_, h1, rfl⟩
    · rw [h2.length]; exact k _ _ _ _ _ q hA Kp.refl rfl
theorem e_len [Jx] (hg : Gl X "len") (hm : X.mg "len" = none) (ha : PA2 X [e] tl tl2) (he : starEach [e] X.env = (false, eval e X.env) :: starEach [] X.env := by rfl) : PE2 X (.Call (.Name "len" p) [e] [] pos) (tCB (rvLen X.K) tl) (dCB dLen tl2) :=
  e_cb call_len rc_len hg hm PySem.boot_len ha (he := he)
/-- int, str, bool of a number -/
def dInt1 : DRC := fun xs μ Q => (∃ i, xs = [.int i] ∧ Q (.int i) μ) ∨ ∃ k, xs = [.bl k] ∧ Q (.int (if k then 1 else 0)) μ
theorem w_int1 {i : Int} (q : Q (.int i) μ) : dInt1 [.int i] μ Q := .inl ⟨i, rfl, q⟩
theorem w_intB {k : Bool} (q : Q (.int (if k then 1 else 0)) μ) : dInt1 [.bl k] μ Q := .inr ⟨k, rfl, q⟩
abbrev rvInt1 : List V → Hp → VK → Prop := fun xs H Q => (∃ i, xs = [.int i] ∧ Q (.int i) H) ∨ ∃ k, xs = [.bl k] ∧ Q (.int (if k then 1 else 0)) H
theorem rc_int1 [Jx] : RC K rvInt1 dInt1 := fun xs μ Q2 q I H vs hA r Q k => by
  rcases q with ⟨i, rfl, q⟩ | ⟨i, rfl, q⟩
  · obtain ⟨v, rfl, e⟩ := r.one_inv
    cases (show v = _ from e)
    exact .inl ⟨_, rfl, k _ _ _ _ _ q hA Kp.refl rfl⟩
  · obtain ⟨v, rfl, e⟩ := r.one_inv
    cases (show v = _ from e)
    exact .inr ⟨_, rfl, k _ _ _ _ _ q hA Kp.refl rfl⟩
theorem e_int1 [Jx] (hg : Gl X "int") (hm : X.mg "int" = none) (ha : PA2 X [e] tl tl2) (hv : bootBuiltins "int" = some (.type "int") := by decide +kernel) (he : starEach [e] X.env = (false, eval e X.env) :: starEach [] X.env := by rfl) : PE2 X (.Call (.Name "int" p) [e] [] pos) (tCB rvInt1 tl) (dCB dInt1 tl2) :=
  e_cty call_int1 rc_int1 hg hm hv ha (he := he)
def dStrI : DRC := fun xs μ Q => ∃ i : Int, xs = [.int i] ∧ i.natAbs.log2 < 1920 ∧ Q (.str (toString i)) μ
theorem w_strI {i : Int} (h : i.natAbs.log2 < 1920) (q : Q (.str (toString i)) μ) : dStrI [.int i] μ Q := ⟨i, rfl, h, q⟩
abbrev rvStrI : List V → Hp → VK → Prop := fun xs H Q => ∃ i : Int, xs = [.int i] ∧ i.natAbs.log2 < 1920 ∧ Q (.str (toString i)) H
theorem e_strI [Jx] (hg : Gl X "str") (hm : X.mg "str" = none) (ha : PA2 X [e] tl tl2) (hv : bootBuiltins "str" = some (.type "str") := by decide +kernel) (he : starEach [e] X.env = (false, eval e X.env) :: starEach [] X.env := by rfl) : PE2 X (.Call (.Name "str" p) [e] [] pos) (tCB rvStrI tl) (dCB dStrI tl2) :=
  e_cty call_str_int (fun xs μ Q2 q I H vs hA r Q k => by
    obtain ⟨i, rfl, h, q⟩ := q
    obtain ⟨v, rfl, e⟩ := r.one_inv
    cases (show v = _ from e)
    exact ⟨_, rfl, h, k _ _ _ _ _ q hA Kp.refl rfl⟩) hg hm hv ha (he := he)
/-- max, min of two -/
def dMax2 : DRC := fun xs μ Q => ∃ i j, xs = [.int i, .int j] ∧ Q (.int (if j > i then j else i)) μ
def dMin2 : DRC := fun xs μ Q => ∃ i j, xs = [.int i, .int j] ∧ Q (.int (if j < i then j else i)) μ
theorem w_max2 {i j : Int} (q : Q (.int (if j > i then j else i)) μ) : dMax2 [.int i, .int j] μ Q := ⟨i, j, rfl, q⟩
theorem w_min2 {i j : Int} (q : Q (.int (if j < i then j else i)) μ) : dMin2 [.int i, .int j] μ Q := ⟨i, j, rfl, q⟩
abbrev rvMax2 : List V → Hp → VK → Prop := fun xs H Q => ∃ i j, xs = [.int i, .int j] ∧ Q (.int (if j > i then j else i)) H
abbrev rvMin2 : List V → Hp → VK → Prop := fun xs H Q => ∃ i j, xs = [.int i, .int j] ∧ Q (.int (if j < i then j else i)) H
theorem e_max2 [Jx] (hg : Gl X "max") (hm : X.mg "max" = none) (ha : PA2 X [a, b] tl tl2) (hc : X.calm = true := by rfl) (hv : bootBuiltins "max" = some (.builtin "max") := by decide +kernel) (he : starEach [a, b] X.env = (false, eval a X.env) :: starEach [b] X.env := by rfl) (hpl : (backTo pos (starEach [b] X.env)).any (·.1) = false := by rfl) :
    PE2 X (.Call (.Name "max" p) [a, b] [] pos) (tCB rvMax2 tl) (dCB dMax2 tl2) := e_cb (call_max2 hc) (fun xs μ Q2 q I H vs hA r Q k => by
    obtain ⟨i, j, rfl, q⟩ := q
    obtain ⟨v, w, rfl, e1, e2⟩ := r.two_inv
    cases (show v = _ from e1)
    cases (show w = _ from e2)
    exact ⟨i, j, rfl, k _ _ _ _ _ q hA Kp.refl rfl⟩) hg hm hv ha (he := he) (hpl := hpl)
theorem e_min2 [Jx] (hg : Gl X "min") (hm : X.mg "min" = none) (ha : PA2 X [a, b] tl tl2) (hc : X.calm = true := by rfl) (hv : bootBuiltins "min" = some (.builtin "min") := by decide +kernel) (he : starEach [a, b] X.env = (false, eval a X.env) :: starEach [b] X.env := by rfl) (hpl : (backTo pos (starEach [b] X.env)).any (·.1) = false := by rfl) :
    PE2 X (.Call (.Name "min" p) [a, b] [] pos) (tCB rvMin2 tl) (dCB dMin2 tl2) := e_cb (call_min2 hc) (fun xs μ Q2 q I H vs hA r Q k => by
    obtain ⟨i, j, rfl, q⟩ := q
    obtain ⟨v, w, rfl, e1, e2⟩ := r.two_inv
    cases (show v = _ from e1)
    cases (show w = _ from e2)
    exact ⟨i, j, rfl, k _ _ _ _ _ q hA Kp.refl rfl⟩) hg hm hv ha (he := he) (hpl := hpl)
/-- isinstance(x, T), T a built-in type -/
def tyD (μ : Mu) : D → Option String
  | .non => some "NoneType" | .bl _ => some "bool" | .int _ => some "int" | .str _ => some "str" | .tup _ => some "tuple" | .lst _ => some "list"
  | .adr a => match μ a with
    | some (.lst _) => some "list"
    | some (.dk _) => some "dict"
    | _ => none
  | _ => none
theorem tyD_ok [Jx] {I H : Hp} {d : D} {v : V} {t : String} (hA : At K μ I H) (r : Rp K I d v) (h : tyD μ d = some t) : TyX K H v (.type t) := by
  cases d with
  | non => cases (show v = _ from r); cases h; exact .base .non
  | bl b => cases (show v = _ from r); cases h; exact .base (.bl b)
  | int i => cases (show v = _ from r); cases h; exact .base (.int i)
  | str z => cases (show v = _ from r); cases h; exact .base (.str z)
  | tup ds =>
    obtain ⟨p, vs, rfl, h1, _⟩ := r
    cases h
    rcases h1 with (h1 | ⟨o, h1⟩) | ⟨o, _, _, h1, h2, _⟩
    · exact .base (.tup (hA.sub _ _ h1))
    · exact .fTuple (hA.sub _ _ h1)
    · exact .kTuple h1 h2
  | lst ds =>
    obtain ⟨p, vs, rfl, h1, _⟩ := r
    cases h
    exact .base (.lst (hA.sub _ _ h1))
  | adr p =>
    cases (show v = _ from r)
    cases q : μ p with
    | none => simp [tyD, q] at h
    | some m =>
      obtain ⟨_, ob, ho, hr⟩ := hA.own p _ q
      cases m with
      | lst ds =>
        have e : "list" = t := by simpa [tyD, q] using h
        subst e
        obtain ⟨vs, rfl, _⟩ := hr
        exact .base (.lst ho)
      | dk kvs =>
        have e : "dict" = t := by simpa [tyD, q] using h
        subst e
        obtain ⟨vs, rfl, _⟩ := hr
        exact .base (.dK ho)
      | ins _ _ => simp [tyD, q] at h
      | dn _ _ _ => simp [tyD, q] at h
      | exc _ _ => simp [tyD, q] at h
      | raw _ => simp [tyD, q] at h
  | ty _ => cases h
  | obj _ _ _ => cases h
  | scr _ => cases h
  | tun _ => cases h
def dIsi : DRC := fun xs μ Q => ∃ x t c b, xs = [x, .ty c] ∧ tyD μ x = some t ∧ kitB t c = some b ∧ Q (.bl b) μ
theorem w_isi {x : D} {t c : String} {b : Bool} (h1 : tyD μ x = some t) (h2 : kitB t c = some b) (q : Q (.bl b) μ) : dIsi [x, .ty c] μ Q := ⟨x, t, c, b, rfl, h1, h2, q⟩
theorem rc_isi [Jx] : RC K (rIsi K) dIsi := fun xs μ Q2 q I H vs hA r Q k => by
  obtain ⟨x, t, c, b, rfl, h1, h2, q⟩ := q
  obtain ⟨v, w, rfl, e1, e2⟩ := r.two_inv
  cases (show w = _ from e2)
  exact ⟨v, .ty c, .type t, .type c, b, rfl, .ty c, tyD_ok hA e1 h1, kit_ty h2, k _ _ _ _ _ q hA Kp.refl rfl⟩
theorem e_isi [Jx] (hg : Gl X "isinstance") (hm : X.mg "isinstance" = none) (ha : PA2 X [a, b] tl tl2) (hv : bootBuiltins "isinstance" = some (.builtin "isinstance") := by decide +kernel) (he : starEach [a, b] X.env = (false, eval a X.env) :: starEach [b] X.env := by rfl) (hpl : (backTo pos (starEach [b] X.env)).any (·.1) = false := by rfl) :
    PE2 X (.Call (.Name "isinstance" p) [a, b] [] pos) (tCB (rIsi X.K) tl) (dCB dIsi tl2) := e_cb call_isi rc_isi hg hm hv ha (he := he) (hpl := hpl)
theorem isi_ii : kitB "int" "int" = some true := by decide +kernel
theorem isi_bi : kitB "bool" "int" = some true := by decide +kernel
theorem isi_si : kitB "str" "int" = some false := by decide +kernel
theorem isi_ni : kitB "NoneType" "int" = some false := by decide +kernel
theorem isi_li : kitB "list" "int" = some false := by decide +kernel
theorem isi_ti : kitB "tuple" "int" = some false := by decide +kernel
theorem isi_di : kitB "dict" "int" = some false := by decide +kernel
theorem isi_ib : kitB "int" "bool" = some false := by decide +kernel
theorem isi_bb : kitB "bool" "bool" = some true := by decide +kernel
theorem isi_sb : kitB "str" "bool" = some false := by decide +kernel
theorem isi_nb : kitB "NoneType" "bool" = some false := by decide +kernel
theorem isi_lb : kitB "list" "bool" = some false := by decide +kernel
theorem isi_tb : kitB "tuple" "bool" = some false := by decide +kernel
theorem isi_db : kitB "dict" "bool" = some false := by decide +kernel
theorem isi_is : kitB "int" "str" = some false := by decide +kernel
theorem isi_bs : kitB "bool" "str" = some false := by decide +kernel
theorem isi_ss : kitB "str" "str" = some true := by decide +kernel
theorem isi_ns : kitB "NoneType" "str" = some false := by decide +kernel
theorem isi_ls : kitB "list" "str" = some false := by decide +kernel
theorem isi_ts : kitB "tuple" "str" = some false := by decide +kernel
theorem isi_ds : kitB "dict" "str" = some false := by decide +kernel
theorem isi_il : kitB "int" "list" = some false := by decide +kernel
theorem isi_bl : kitB "bool" "list" = some false := by decide +kernel
theorem isi_sl : kitB "str" "list" = some false := by decide +kernel
theorem isi_nl : kitB "NoneType" "list" = some false := by decide +kernel
theorem isi_ll : kitB "list" "list" = some true := by decide +kernel
theorem isi_tl : kitB "tuple" "list" = some false := by decide +kernel
theorem isi_dl : kitB "dict" "list" = some false := by decide +kernel
theorem isi_it : kitB "int" "tuple" = some false := by decide +kernel
theorem isi_bt : kitB "bool" "tuple" = some false := by decide +kernel
theorem isi_st : kitB "str" "tuple" = some false := by decide +kernel
theorem isi_nt : kitB "NoneType" "tuple" = some false := by decide +kernel
theorem isi_lt : kitB "list" "tuple" = some false := by decide +kernel
theorem isi_tt : kitB "tuple" "tuple" = some true := by decide +kernel
theorem isi_dt : kitB "dict" "tuple" = some false := by decide +kernel
/-- list(x), tuple(x) -/
def dListOf : DRC := fun xs μ Q => ∃ x ds, xs = [x] ∧ asS μ x = some ds ∧ ∀ p, μ p = none → Q (.adr p) (mup μ p (.lst ds))
theorem w_listOf {x : D} {ds : List D} (h : asS μ x = some ds) (q : ∀ p, μ p = none → Q (.adr p) (mup μ p (.lst ds))) : dListOf [x] μ Q := ⟨x, ds, rfl, h, q⟩
abbrev rvListOf (K : PySem.W.Frag) : List V → Hp → VK → Prop := fun xs H Q => ∃ p ys, xs = [.ref p] ∧ (SqL K H p ys ∨ SqT K H p ys) ∧ ∀ l, H l = none → Q (.ref l) (upd H l (.lst ys))
theorem e_listOf [Jx] (hg : Gl X "list") (hm : X.mg "list" = none) (ha : PA2 X [e] tl tl2) (hv : bootBuiltins "list" = some (.type "list") := by decide +kernel) (he : starEach [e] X.env = (false, eval e X.env) :: starEach [] X.env := by rfl) : PE2 X (.Call (.Name "list" p) [e] [] pos) (tCB (rvListOf X.K) tl) (dCB dListOf tl2) :=
  e_cty call_list_of (fun xs μ Q2 q I H vs hA r Q k => by
    obtain ⟨x, ds, rfl, h, q⟩ := q
    obtain ⟨v, rfl, e⟩ := r.one_inv
    obtain ⟨p, ws, rfl, h1, h2⟩ := asS_at hA e h
    exact ⟨p, ws, rfl, h1, fun l hl => k _ _ _ _ _ (q l (hA.noM hl)) (hA.got hl ⟨ws, rfl, h2⟩) (Kp.got hl) rfl⟩) hg hm hv ha (he := he)
def dTupOf : DRC := fun xs μ Q => ∃ x ds, xs = [x] ∧ asS μ x = some ds ∧ Q (.tup ds) μ
theorem w_tupOf {x : D} {ds : List D} (h : asS μ x = some ds) (q : Q (.tup ds) μ) : dTupOf [x] μ Q := ⟨x, ds, rfl, h, q⟩
abbrev rvTupOf (K : PySem.W.Frag) : List V → Hp → VK → Prop := fun xs H Q => ∃ p ys, xs = [.ref p] ∧ ((SqL K H p ys ∧ ∀ l, H l = none → Q (.ref l) (upd H l (.tup ys))) ∨ (SqT K H p ys ∧ Q (.ref p) H))
theorem e_tupOf [Jx] (hg : Gl X "tuple") (hm : X.mg "tuple" = none) (ha : PA2 X [e] tl tl2) (hv : bootBuiltins "tuple" = some (.type "tuple") := by decide +kernel) (he : starEach [e] X.env = (false, eval e X.env) :: starEach [] X.env := by rfl) : PE2 X (.Call (.Name "tuple" p) [e] [] pos) (tCB (rvTupOf X.K) tl) (dCB dTupOf tl2) :=
  e_cty call_tuple_of (fun xs μ Q2 q I H vs hA r Q k => by
    obtain ⟨x, ds, rfl, h, q⟩ := q
    obtain ⟨v, rfl, e⟩ := r.one_inv
    cases x with
    | tup es =>
      cases (show some es = some ds from h)
      obtain ⟨p, ws, rfl, h1, h2⟩ := e
      exact ⟨p, ws, rfl, .inr ⟨(show Exx I H from hA.sub).sqt h1, k _ _ _ _ _ q hA Kp.refl ⟨p, ws, rfl, h1, h2⟩⟩⟩
    | lst es =>
      obtain ⟨p, ws, rfl, h1, h2⟩ := asL_at hA e h
      exact ⟨p, ws, rfl, .inl ⟨SqL.of h1, go_newT q hA h2 k⟩⟩
    | adr y =>
      obtain ⟨p, ws, rfl, h1, h2⟩ := asL_at hA e h
      exact ⟨p, ws, rfl, .inl ⟨SqL.of h1, go_newT q hA h2 k⟩⟩
    | non => cases h
    | bl _ => cases h
    | int _ => cases h
    | str _ => cases h
    | ty _ => cases h
    | obj _ _ _ => cases h
    | scr _ => cases h
    | tun es =>
      cases (show some es = some ds from h)
      obtain ⟨p, ws, rfl, ⟨o, h1, _⟩, h2⟩ := e
      exact ⟨p, ws, rfl, .inr ⟨.inl (.inr ⟨o, hA.sub _ _ h1⟩), k _ _ _ _ _ q hA Kp.refl ⟨p, ws, rfl, .inl (.inr ⟨o, h1⟩), h2⟩⟩⟩) hg hm hv ha (he := he)

/-! ### methods of lists and texts -/
abbrev DRM := D → List D → Mu → DK → Prop
def RM [Jx] (K : PySem.W.Frag) (r : V → List V → Hp → VK → Prop) (r2 : DRM) : Prop := ∀ x xs μ Q2, r2 x xs μ Q2 → ∀ I H v vs, At K μ I H → Rp K I x v → RpA K I xs vs → ∀ Q : VK, Go K I μ H Q2 Q → r v vs H Q
/-- its type -/
def tyO (μ : Mu) (T : String) (x : D) : Prop := (T = "str" ∧ ∃ z, x = .str z) ∨ (T = "list" ∧ ∃ ds, asL μ x = some ds)
theorem tyO_ok [Jx] {I H : Hp} {x : D} {v : V} {T : String} (hA : At K μ I H) (r : Rp K I x v) (h : tyO μ T x) : tyV K T v H := by
  rcases h with ⟨rfl, z, rfl⟩ | ⟨rfl, ds, h⟩
  · cases (show v = _ from r); exact rfl
  · obtain ⟨p, vs, rfl, h1, _⟩ := asL_at hA r h
    exact .inl ⟨rfl, vs, SqL.of h1⟩
def dBM0 (T : String) (r : DRM) (to : TE2) : TE2 := fun ρ μ Q => to ρ μ fun x μ1 => tyO μ1 T x ∧ r x [] μ1 Q
def dBM (T : String) (r : DRM) (to : TE2) (t : TA2) : TE2 := fun ρ μ Q => to ρ μ fun x μ1 => tyO μ1 T x ∧ t ρ μ1 fun xs μ2 => r x xs μ2 Q
def dTy (T : String) (x : D) (μ : Mu) (P : Prop) : Prop := tyO μ T x ∧ P
theorem w_tyS {z : Str} {P : Prop} (h : P) : dTy "str" (.str z) μ P := ⟨.inl ⟨rfl, z, rfl⟩, h⟩
theorem w_tyL {x : D} {ds : List D} {P : Prop} (e : asL μ x = some ds) (h : P) : dTy "list" x μ P := ⟨.inr ⟨rfl, ds, e⟩, h⟩
theorem w_bm0 {T : String} {r : DRM} (h : to2 ρ μ fun x μ1 => dTy T x μ1 (r x [] μ1 Q)) : dBM0 T r to2 ρ μ Q := h
theorem w_bm {T : String} {r : DRM} (h : to2 ρ μ fun x μ1 => dTy T x μ1 (tl2 ρ μ1 fun xs μ2 => r x xs μ2 Q)) : dBM T r to2 tl2 ρ μ Q := h
theorem e_bm0 [Jx] {T id : String} {name : Str} {r : V → List V → Hp → VK → Prop} {r2 : DRM} (pa : PlainAttrs T) (slot : Slot T name id) (hty : typeOf (.builtin id) = pure (.type "method_descriptor")) (hm : MtR X id r) (hr : RM X.K r r2) (ho : PE2 X o to to2)
    (hbase : attributeBase o name X.env (eval o X.env) = eval o X.env := by rfl) (hline : (apos.endLine == cpos.line) = true := by rfl) : PE2 X (.Call (.Attribute o name apos) [] [] cpos) (tBM0 X.K T r to) (dBM0 T r2 to2) :=
  ⟨pe_bm0 pa slot hty hm ho.pe hbase hline, fun ρ μ Q2 q I σ H hA hS Q g => ho.re ρ μ _ q I σ H hA hS _ fun d μ1 v I1 H1 q1 a1 k1 r1 => ⟨tyO_ok a1 r1 q1.1, hr d [] μ1 Q2 q1.2 I1 H1 v [] a1 r1 rfl Q (g.past k1)⟩⟩
theorem e_bm [Jx] {T id : String} {name : Str} {r : V → List V → Hp → VK → Prop} {r2 : DRM} (pa : PlainAttrs T) (slot : Slot T name id) (hty : typeOf (.builtin id) = pure (.type "method_descriptor")) (hm : MtR X id r) (hr : RM X.K r r2) (ho : PE2 X o to to2) (ha : PA2 X (e :: es) tl tl2)
    (hbase : attributeBase o name X.env (eval o X.env) = eval o X.env := by rfl)
    (hfew : ((backTo cpos (starEach (e :: es) X.env)).all (fun x => !x.1) && (backToKw cpos (keywordEach [] X.env)).all (fun x => x.1.isSome)
      && decide ((e :: es).length + ([] : List Keyword).length + (if ([] : List Keyword).isEmpty then 0 else 1) < 30)) = true := by rfl)
    (hline : (apos.endLine == cpos.line) = true := by rfl) (hs : starEach (e :: es) X.env = (false, eval e X.env) :: starEach es X.env := by rfl) (hplain : (backTo cpos (starEach es X.env)).any (·.1) = false := by rfl) :
    PE2 X (.Call (.Attribute o name apos) (e :: es) [] cpos) (tBM X.K T r to tl) (dBM T r2 to2 tl2) :=
  ⟨pe_bm pa slot hty hm ho.pe ha.pa hbase hfew hline hs hplain, fun ρ μ Q2 q I σ H hA hS Q g => ho.re ρ μ _ q I σ H hA hS _ fun d μ1 v I1 H1 q1 a1 k1 r1 =>
    ⟨tyO_ok a1 r1 q1.1, ha.re ρ μ1 _ q1.2 I1 σ H1 a1 (hS.mono k1.ex) _ fun ds μ2 vs I2 H2 q2 a2 k2 r2 => hr d ds μ2 Q2 q2 I2 H2 v vs a2 (r1.mono k2.ex) r2 Q (g.past (k1.trans k2))⟩⟩
/-- append, extend, clear, pop, reverse of an owned list -/
def dApp : DRM := fun x xs μ Q => ∃ p ds y, x = .adr p ∧ xs = [y] ∧ μ p = some (.lst ds) ∧ ds.length < sizeLine ∧ Q .non (mup μ p (.lst (ds ++ [y])))
theorem w_app {p : Addr} {ds : List D} {y : D} (h : μ p = some (.lst ds)) (z : ds.length < sizeLine) (q : Q .non (mup μ p (.lst (ds ++ [y])))) : dApp (.adr p) [y] μ Q := ⟨p, ds, y, rfl, rfl, h, z, q⟩
theorem rm_app [Jx] : RM K rAppend dApp := fun x xs μ Q2 q I H v vs hA rx rs Q k => by
  obtain ⟨p, ds, y, rfl, rfl, h, z, q⟩ := q
  cases (show v = _ from rx)
  obtain ⟨w, rfl, rw'⟩ := rs.one_inv
  obtain ⟨_, ob, ho, us, rfl, hr⟩ := hA.own p _ h
  exact ⟨p, us, w, rfl, rfl, ho, by rw [hr.length]; exact z, k _ _ _ _ _ q (hA.put h ⟨_, rfl, hr.append (RpA.one rw')⟩) (Kp.put h) rfl⟩
def dExtend : DRM := fun x xs μ Q => ∃ p ds y es, x = .adr p ∧ xs = [y] ∧ μ p = some (.lst ds) ∧ asL μ y = some es ∧ ds.length + es.length ≤ sizeLine ∧ Q .non (mup μ p (.lst (ds ++ es)))
theorem w_extend {p : Addr} {ds es : List D} {y : D} (h : μ p = some (.lst ds)) (h' : asL μ y = some es) (z : ds.length + es.length ≤ sizeLine) (q : Q .non (mup μ p (.lst (ds ++ es)))) : dExtend (.adr p) [y] μ Q := ⟨p, ds, y, es, rfl, rfl, h, h', z, q⟩
theorem rm_extend [Jx] : RM K rExtend dExtend := fun x xs μ Q2 q I H v vs hA rx rs Q k => by
  obtain ⟨p, ds, y, es, rfl, rfl, h, h', z, q⟩ := q
  cases (show v = _ from rx)
  obtain ⟨w, rfl, rw'⟩ := rs.one_inv
  obtain ⟨_, ob, ho, us, rfl, hr⟩ := hA.own p _ h
  obtain ⟨p', ws, rfl, h1, h2⟩ := asL_at hA rw' h'
  exact ⟨p, p', us, ws, rfl, rfl, ho, h1, by rw [hr.length, h2.length]; exact z, k _ _ _ _ _ q (hA.put h ⟨_, rfl, hr.append h2⟩) (Kp.put h) rfl⟩
def dClear : DRM := fun x xs μ Q => ∃ p ds, x = .adr p ∧ xs = [] ∧ μ p = some (.lst ds) ∧ Q .non (mup μ p (.lst []))
theorem w_clear {p : Addr} {ds : List D} (h : μ p = some (.lst ds)) (q : Q .non (mup μ p (.lst []))) : dClear (.adr p) [] μ Q := ⟨p, ds, rfl, rfl, h, q⟩
theorem rm_clear [Jx] : RM K rClear dClear := fun x xs μ Q2 q I H v vs hA rx rs Q k => by
  obtain ⟨p, ds, rfl, rfl, h, q⟩ := q
  cases (show v = _ from rx)
  cases (show vs = _ from rs)
  obtain ⟨_, ob, ho, us, rfl, hr⟩ := hA.own p _ h
  exact ⟨p, us, rfl, rfl, ho, k _ _ _ _ _ q (hA.put h ⟨_, rfl, rfl⟩) (Kp.put h) rfl⟩
def dPop : DRM := fun x xs μ Q => ∃ p ds d, x = .adr p ∧ xs = [] ∧ μ p = some (.lst ds) ∧ ds[ds.length - 1]? = some d ∧ Q d (mup μ p (.lst ds.dropLast))
theorem w_pop {p : Addr} {ds : List D} {d : D} (h : μ p = some (.lst ds)) (e : ds[ds.length - 1]? = some d) (q : Q d (mup μ p (.lst ds.dropLast))) : dPop (.adr p) [] μ Q := ⟨p, ds, d, rfl, rfl, h, e, q⟩
theorem rm_pop [Jx] : RM K rPop dPop := fun x xs μ Q2 q I H v vs hA rx rs Q k => by
  obtain ⟨p, ds, d, rfl, rfl, h, e, q⟩ := q
  cases (show v = _ from rx)
  cases (show vs = _ from rs)
  obtain ⟨_, ob, ho, us, rfl, hr⟩ := hA.own p _ h
  obtain ⟨w, e1, e2⟩ := hr.get e
  refine ⟨p, us, w, rfl, rfl, ho, by rw [hr.length]; exact e1, k _ _ _ _ _ q (hA.put h ⟨_, rfl, ?_⟩) (Kp.put h) e2⟩
  rw [List.dropLast_eq_take, List.dropLast_eq_take, hr.length]
  exact hr.take _
def dReverse : DRM := fun x xs μ Q => ∃ p ds, x = .adr p ∧ xs = [] ∧ μ p = some (.lst ds) ∧ Q .non (mup μ p (.lst ds.reverse))
theorem w_reverse {p : Addr} {ds : List D} (h : μ p = some (.lst ds)) (q : Q .non (mup μ p (.lst ds.reverse))) : dReverse (.adr p) [] μ Q := ⟨p, ds, rfl, rfl, h, q⟩
theorem rm_reverse [Jx] : RM K rReverse dReverse := fun x xs μ Q2 q I H v vs hA rx rs Q k => by
  obtain ⟨p, ds, rfl, rfl, h, q⟩ := q
  cases (show v = _ from rx)
  cases (show vs = _ from rs)
  obtain ⟨_, ob, ho, us, rfl, hr⟩ := hA.own p _ h
  exact ⟨p, us, rfl, rfl, ho, k _ _ _ _ _ q (hA.put h ⟨_, rfl, hr.reverse⟩) (Kp.put h) rfl⟩
theorem MtM.toR {id : String} {r : V → List V → Hp → VK → Prop} (h : MtR X id r) : MtR X id r := h
theorem e_app [Jx] (ho : PE2 X o to to2) (ha : PA2 X [e] tl tl2) (hbase : attributeBase o "append" X.env (eval o X.env) = eval o X.env := by rfl)
    (hfew : ((backTo cpos (starEach [e] X.env)).all (fun x => !x.1) && (backToKw cpos (keywordEach [] X.env)).all (fun x => x.1.isSome) && decide ([e].length + ([] : List Keyword).length + (if ([] : List Keyword).isEmpty then 0 else 1) < 30)) = true := by rfl)
    (hline : (apos.endLine == cpos.line) = true := by rfl) (hs : starEach [e] X.env = (false, eval e X.env) :: starEach [] X.env := by rfl) : PE2 X (.Call (.Attribute o "append" apos) [e] [] cpos) (tBM X.K "list" rAppend to tl) (dBM "list" dApp to2 tl2) :=
  e_bm PySem.F.plainAttrs_list PySem.F.slot_list_append PySem.F.type_list_append mt_append rm_app ho ha hbase hfew hline hs
theorem e_extend [Jx] (ho : PE2 X o to to2) (ha : PA2 X [e] tl tl2) (hbase : attributeBase o "extend" X.env (eval o X.env) = eval o X.env := by rfl)
    (hfew : ((backTo cpos (starEach [e] X.env)).all (fun x => !x.1) && (backToKw cpos (keywordEach [] X.env)).all (fun x => x.1.isSome) && decide ([e].length + ([] : List Keyword).length + (if ([] : List Keyword).isEmpty then 0 else 1) < 30)) = true := by rfl)
    (hline : (apos.endLine == cpos.line) = true := by rfl) (hs : starEach [e] X.env = (false, eval e X.env) :: starEach [] X.env := by rfl) : PE2 X (.Call (.Attribute o "extend" apos) [e] [] cpos) (tBM X.K "list" rExtend to tl) (dBM "list" dExtend to2 tl2) :=
  e_bm PySem.F.plainAttrs_list PySem.F.slot_list_extend PySem.F.type_list_extend mt_extend rm_extend ho ha hbase hfew hline hs
theorem e_clear [Jx] (ho : PE2 X o to to2) (hbase : attributeBase o "clear" X.env (eval o X.env) = eval o X.env := by rfl) (hline : (apos.endLine == cpos.line) = true := by rfl) : PE2 X (.Call (.Attribute o "clear" apos) [] [] cpos) (tBM0 X.K "list" rClear to) (dBM0 "list" dClear to2) :=
  e_bm0 PySem.F.plainAttrs_list PySem.F.slot_list_clear PySem.F.type_list_clear mt_clear rm_clear ho hbase hline
theorem e_pop [Jx] (ho : PE2 X o to to2) (hbase : attributeBase o "pop" X.env (eval o X.env) = eval o X.env := by rfl) (hline : (apos.endLine == cpos.line) = true := by rfl) : PE2 X (.Call (.Attribute o "pop" apos) [] [] cpos) (tBM0 X.K "list" rPop to) (dBM0 "list" dPop to2) :=
  e_bm0 PySem.F.plainAttrs_list PySem.F.slot_list_pop PySem.F.type_list_pop mt_pop rm_pop ho hbase hline
theorem e_reverse [Jx] (ho : PE2 X o to to2) (hbase : attributeBase o "reverse" X.env (eval o X.env) = eval o X.env := by rfl) (hline : (apos.endLine == cpos.line) = true := by rfl) : PE2 X (.Call (.Attribute o "reverse" apos) [] [] cpos) (tBM0 X.K "list" rReverse to) (dBM0 "list" dReverse to2) :=
  e_bm0 PySem.F.plainAttrs_list PySem.F.slot_list_reverse PySem.F.type_list_reverse mt_reverse rm_reverse ho hbase hline
/-- split, join -/
def dM1 (r : D → D → Mu → DK → Prop) (to te : TE2) : TE2 := fun ρ μ Q => to ρ μ fun x μ1 => dTy "str" x μ1 (te ρ μ1 fun y μ2 => r x y μ2 Q)
theorem w_m1 {r : D → D → Mu → DK → Prop} (h : to2 ρ μ fun x μ1 => dTy "str" x μ1 (te2 ρ μ1 fun y μ2 => r x y μ2 Q)) : dM1 r to2 te2 ρ μ Q := h
theorem re_m1 [Jx] {r : V → List V → Hp → VK → Prop} {r2 : D → D → Mu → DK → Prop} (hr : ∀ x y μ Q2, r2 x y μ Q2 → ∀ I H v u, At K μ I H → Rp K I x v → Rp K I y u → ∀ Q : VK, Go K I μ H Q2 Q → r v [u] H Q) (ho : RE K to to2) (he : RE K te te2) : RE K (tM1 r to te) (dM1 r2 to2 te2) := fun ρ μ Q2 q I σ H hA hS Q g =>
  ho ρ μ _ q I σ H hA hS _ fun d μ1 v I1 H1 q1 a1 k1 r1 => by
    obtain ⟨h, q1⟩ := q1
    rcases h with ⟨_, z, rfl⟩ | ⟨h, _⟩
    · exact ⟨⟨z, r1⟩, he ρ μ1 _ q1 I1 σ H1 a1 (hS.mono k1.ex) _ fun y μ2 u I2 H2 q2 a2 k2 r2 => hr _ y μ2 Q2 q2 I2 H2 v u a2 (r1.mono k2.ex) r2 Q (g.past (k1.trans k2))⟩
    · exact absurd h (by decide)
def dSplit : D → D → Mu → DK → Prop := fun x y μ Q => ∃ a b, x = .str a ∧ y = .str b ∧ (b.length == 0) = false ∧ a.length + 2 ≤ sizeLine ∧ ∀ p, μ p = none → Q (.adr p) (mup μ p (.lst ((Txt.split a b).map D.str)))
theorem w_split {a b : Str} (h1 : (b.length == 0) = false) (h2 : a.length + 2 ≤ sizeLine) (q : ∀ p, μ p = none → Q (.adr p) (mup μ p (.lst ((Txt.split a b).map D.str)))) : dSplit (.str a) (.str b) μ Q := ⟨a, b, rfl, rfl, h1, h2, q⟩
abbrev rvSplit : V → List V → Hp → VK → Prop := fun x xs H Q => ∃ a b, x = .str a ∧ xs = [.str b] ∧ (b.length == 0) = false ∧ a.length + 2 ≤ sizeLine ∧ rNewStrs (Txt.split a b) H Q
theorem e_split [Jx] (ho : PE2 X o to to2) (he : PE2 X e te te2) (hs : starEach [e] X.env = [(false, eval e X.env)] := by rfl) (hbase : attributeBase o "split" X.env (eval o X.env) = eval o X.env := by rfl) (hline : (apos.endLine == pos.line) = true := by rfl) :
    PE2 X (.Call (.Attribute o "split" apos) [e] [] pos) (tM1 rvSplit to te) (dM1 dSplit to2 te2) := ⟨pe_split ho.pe he.pe hs hbase hline, re_m1 (fun x y μ Q2 q I H v u hA rx ry Q k => by
    obtain ⟨a, b, rfl, rfl, h1, h2, q⟩ := q
    refine ⟨a, b, rx, by rw [show u = _ from ry], h1, h2, fun p hp => ?_⟩
    exact k _ _ _ _ _ (q p (hA.noM hp)) (hA.got hp ⟨_, rfl, RpA.strs _⟩) (Kp.got hp) rfl) ho.re he.re⟩
/-- the texts of a list -/
def strsOf : List D → Option (List Str)
  | [] => some []
  | .str x :: r => (strsOf r).map (x :: ·)
  | _ => none
theorem strsOf_ok : ∀ {ds : List D} {ys : List Str}, strsOf ds = some ys → ds = ys.map D.str
  | [], _, h => by cases h; rfl
  | .str x :: r, ys, h => by
    unfold strsOf at h
    cases q : strsOf r with
    | none => rw [q] at h; cases h
    | some zs =>
      rw [q] at h
      cases (show some (x :: zs) = some ys from h)
      rw [strsOf_ok q]; rfl
  | .non :: _, _, h => by cases h
  | .bl _ :: _, _, h => by cases h
  | .int _ :: _, _, h => by cases h
  | .ty _ :: _, _, h => by cases h
  | .adr _ :: _, _, h => by cases h
  | .tup _ :: _, _, h => by cases h
  | .lst _ :: _, _, h => by cases h
  | .obj _ _ _ :: _, _, h => by cases h
  | .scr _ :: _, _, h => by cases h
  | .tun _ :: _, _, h => by cases h
theorem strsOf_map : ∀ ys : List Str, strsOf (ys.map D.str) = some ys
  | [] => rfl
  | y :: ys => by show (strsOf (ys.map D.str)).map (y :: ·) = _; rw [strsOf_map ys]; rfl
def dJoin : D → D → Mu → DK → Prop := fun x y μ Q => ∃ a ds ys, x = .str a ∧ asS μ y = some ds ∧ strsOf ds = some ys ∧ (ys.map (·.length)).sum + ys.length * a.length ≤ 16777216 ∧ Q (.str (Txt.join a ys)) μ
theorem w_join {a : Str} {y : D} {ds : List D} {ys : List Str} (h1 : asS μ y = some ds) (h2 : strsOf ds = some ys) (z : (ys.map (·.length)).sum + ys.length * a.length ≤ 16777216) (q : Q (.str (Txt.join a ys)) μ) : dJoin (.str a) y μ Q := ⟨a, ds, ys, rfl, h1, h2, z, q⟩
abbrev rvJoin (K : PySem.W.Frag) : V → List V → Hp → VK → Prop := fun x xs H Q => ∃ a p, ∃ ys : List Str, x = .str a ∧ xs = [.ref p] ∧ (SqL K H p (ys.map V.str) ∨ SqT K H p (ys.map V.str)) ∧
      (ys.map (·.length)).sum + ys.length * a.length ≤ 16777216 ∧ Q (.str (Txt.join a ys)) H
theorem e_join [Jx] (ho : PE2 X o to to2) (he : PE2 X e te te2) (hs : starEach [e] X.env = [(false, eval e X.env)] := by rfl) (hbase : attributeBase o "join" X.env (eval o X.env) = eval o X.env := by rfl) (hline : (apos.endLine == pos.line) = true := by rfl) :
    PE2 X (.Call (.Attribute o "join" apos) [e] [] pos) (tM1 (rvJoin X.K) to te) (dM1 dJoin to2 te2) := ⟨pe_join ho.pe he.pe hs hbase hline, re_m1 (fun x y μ Q2 q I H v u hA rx ry Q k => by
    obtain ⟨a, ds, ys, rfl, h1, h2, z, q⟩ := q
    obtain ⟨p, vs, rfl, h3, h4⟩ := asS_at hA ry h1
    rw [strsOf_ok h2] at h4
    rw [h4.strs_inv] at h3
    exact ⟨a, p, ys, rx, rfl, h3, z, k _ _ _ _ _ q hA Kp.refl rfl⟩) ho.re he.re⟩
end
end Y

set_option Elab.async false
set_option linter.all false
set_option maxRecDepth 100000
set_option maxHeartbeats 4000000
namespace Y
open PySem PySem.Spec PyProof.Rows L2
/-! ### less is known, more stays -/
def Sh (ρ : Env2) (μ : Mu) (ρ' : Env2) (μ' : Mu) : Prop := ∀ [Jx], ∀ (K : PySem.W.Frag) (I : Hp) (σ : L2.St) (H : Hp), At K μ I H → Slots K I ρ σ → ∃ I', At K μ' I' H ∧ Slots K I' ρ' σ ∧ Kp I μ H I' μ' H
def Cl (P : Env2 → Mu → Prop) (ρ : Env2) (μ : Mu) : Prop := ∃ ρ' μ', Sh ρ μ ρ' μ' ∧ P ρ' μ'
def ShD (d : D) (μ : Mu) (d' : D) (μ' : Mu) : Prop := ∀ [Jx], ∀ (K : PySem.W.Frag) (I H : Hp) (v : V), At K μ I H → Rp K I d v → ∃ I', At K μ' I' H ∧ Kp I μ H I' μ' H ∧ Rp K I' d' v
/-- at a return -/
def RtC (Q : DK) : DK := fun d μ => ∃ d' μ', ShD d μ d' μ' ∧ Q d' μ'
def Sub (μ' μ : Mu) : Prop := ∀ b m, μ' b = some m → μ b = some m
theorem Sub.refl {μ : Mu} : Sub μ μ := fun _ _ h => h
theorem Sub.trans {μ μ1 μ2 : Mu} (a : Sub μ μ1) (b : Sub μ1 μ2) : Sub μ μ2 := fun x m h => b x m (a x m h)
theorem Sub.new {μ : Mu} {p : Addr} {m : MO} (h : μ p = none) : Sub μ (mup μ p m) := fun b n e => by
  have hb : b ≠ p := fun z => by rw [z, h] at e; cases e
  rw [mup_ne hb]; exact e
theorem Sub.mup {μ μ' : Mu} {p : Addr} {m : MO} (h : Sub μ μ') : Sub (mup μ p m) (mup μ' p m) := fun b n e => by
  by_cases hb : b = p
  · subst hb; rw [mup_same] at e ⊢; exact e
  · rw [mup_ne hb] at e ⊢; exact h b n e
theorem Sub.over {μ μ' : Mu} {p : Addr} {m : MO} (h : Sub μ μ') (hp : μ p = none) : Sub μ (Y.mup μ' p m) := fun b n e => by
  have hb : b ≠ p := fun z => by rw [z, hp] at e; cases e
  rw [mup_ne hb]; exact h b n e
theorem Sh.refl {ρ : Env2} {μ : Mu} : Sh ρ μ ρ μ := fun K I σ H a s => ⟨I, a, s, Kp.refl⟩
theorem Sh.less {ρ : Env2} {μ μ' : Mu} (h : Sub μ' μ) : Sh ρ μ ρ μ' := fun K I σ H a s => ⟨I, a.less h, s, Kp.less h⟩
theorem Sh.trans {ρ ρ1 ρ2 : Env2} {μ μ1 μ2 : Mu} (a : Sh ρ μ ρ1 μ1) (b : Sh ρ1 μ1 ρ2 μ2) : Sh ρ μ ρ2 μ2 := fun K I σ H h s => by
  obtain ⟨I1, a1, s1, k1⟩ := a K I σ H h s
  obtain ⟨I2, a2, s2, k2⟩ := b K I1 σ H a1 s1
  exact ⟨I2, a2, s2, k1.trans k2⟩
/-- slots forgotten -/
def Less : Env2 → Env2 → Prop
  | [], [] => True
  | a :: r, b :: s => (b = none ∨ a = b) ∧ Less r s
  | _, _ => False
theorem Less.length : ∀ {ρ ρ' : Env2}, Less ρ ρ' → ρ'.length = ρ.length
  | [], [], _ => rfl
  | _ :: _, _ :: _, h => by show _ + 1 = _ + 1; rw [Less.length h.2]
  | [], _ :: _, h => h.elim
  | _ :: _, [], h => h.elim
theorem Less.get : ∀ {ρ ρ' : Env2} {i : Nat} {d : D}, Less ρ ρ' → ρ'[i]? = some (some d) → ρ[i]? = some (some d)
  | [], [], _, _, _, e => by simp at e
  | a :: _, b :: _, 0, d, h, e => by
    have e' : b = some d := by simpa using e
    rcases h.1 with z | z
    · rw [z] at e'; cases e'
    · simp [z, e']
  | _ :: _, _ :: _, i + 1, d, h, e => by simpa using Less.get h.2 (i := i) (d := d) (by simpa using e)
  | [], _ :: _, _, _, h, _ => h.elim
  | _ :: _, [], _, _, h, _ => h.elim
theorem Sh.forget {ρ ρ' : Env2} {μ : Mu} (h : Less ρ ρ') : Sh ρ μ ρ' μ := fun K I σ H a s => ⟨I, a, ⟨h.length.trans s.1, fun i d e => s.2 i d (h.get e)⟩, Kp.refl⟩
/-- an owned list that a slot holds stays from now on -/
theorem Sh.frz {ρ : Env2} {μ : Mu} {p : Addr} {ds : List D} (i : Nat) (h : μ p = some (.lst ds)) (hi : ρ[i]? = some (some (.adr p))) : Sh ρ μ (ρ.set i (some (.lst ds))) (mdel μ p) := fun K I σ H a s => by
  obtain ⟨hI, ob, ho, vs, rfl, hr⟩ := a.own p _ h
  obtain ⟨v, e1, e2⟩ := s.2 i _ hi
  refine ⟨_, a.frz h ho, ?_, Kp.frz h hI⟩
  have s' := Slots.set (v := v) i (s.mono (Exx.new hI)) (show Rp K (upd I p (.lst vs)) (.lst ds) v from ⟨p, vs, e2, upd_same, hr.mono (Exx.new hI)⟩)
  have e : σ.set i (some v) = σ := by
    apply List.ext_getElem?
    intro j
    by_cases hj : i = j
    · subst hj; rw [e1, List.getElem?_set_self (List.getElem?_eq_some_iff.mp e1).1]
    · rw [List.getElem?_set_ne hj]
  rw [e] at s'; exact s'
theorem Cl.same {P : Env2 → Mu → Prop} {ρ : Env2} {μ : Mu} (h : P ρ μ) : Cl P ρ μ := ⟨ρ, μ, Sh.refl, h⟩
theorem Cl.at {P : Env2 → Mu → Prop} {ρ ρ' : Env2} {μ μ' : Mu} (l : Less ρ ρ') (s : Sub μ' μ) (h : P ρ' μ') : Cl P ρ μ := ⟨ρ', μ', Sh.trans (Sh.forget l) (Sh.less s), h⟩
theorem Cl.less {P : Env2 → Mu → Prop} {ρ : Env2} {μ μ' : Mu} (s : Sub μ' μ) (h : P ρ μ') : Cl P ρ μ := ⟨ρ, μ', Sh.less s, h⟩
theorem Cl.frz {P : Env2 → Mu → Prop} {ρ : Env2} {μ : Mu} {p : Addr} {ds : List D} (i : Nat) (h : μ p = some (.lst ds)) (hi : ρ[i]? = some (some (.adr p))) (q : P (ρ.set i (some (.lst ds))) (mdel μ p)) : Cl P ρ μ := ⟨_, _, Sh.frz i h hi, q⟩
theorem RtC.same {Q : DK} {d : D} {μ : Mu} (h : Q d μ) : RtC Q d μ := ⟨d, μ, fun K I H v a r => ⟨I, a, Kp.refl, r⟩, h⟩
theorem RtC.less {Q : DK} {d : D} {μ μ' : Mu} (s : Sub μ' μ) (h : Q d μ') : RtC Q d μ := ⟨d, μ', fun K I H v a r => ⟨I, a.less s, Kp.less s, r⟩, h⟩
theorem RtC.frz {Q : DK} {p : Addr} {ds : List D} {μ μ' : Mu} (hp : μ p = some (.lst ds)) (s : Sub μ' (mdel μ p)) (h : Q (.lst ds) μ') : RtC Q (.adr p) μ := ⟨_, μ', fun K I H v a r => by
  obtain ⟨hI, ob, ho, vs, rfl, hr⟩ := a.own p _ hp
  exact ⟨_, (a.frz hp ho).less s, (Kp.frz hp hI).trans (Kp.less s), ⟨p, vs, r, upd_same, hr.mono (Exx.new hI)⟩⟩, h⟩
section
variable {X : Cx} {K : PySem.W.Frag} {a b c e o : Expr} {es rest : List Expr} {ta tb tc te to : TE} {ta2 tb2 tc2 te2 to2 : TE2} {pos apos cpos p : Pos} {tt tu : TT} {tt2 tu2 : TT2} {tl : TA} {tl2 : TA2} {x : Str}
variable {ρ : Env2} {μ : Mu} {Q : DK} {T F : Mu → Prop} {st : Stmt} {sts sts' : List Stmt} {ts tz : TS} {ts2 tz2 : TS2} {D2 : Ends2}
theorem Slots.less {I : Hp} {σ : L2.St} (h : Slots K I ρ σ) {ρ' : Env2} (l : Less ρ ρ') : Slots K I ρ' σ := ⟨l.length.trans h.1, fun i d e => h.2 i d (l.get e)⟩

/-! ### targets -/
abbrev TG2 := D → Env2 → Mu → (Env2 → Mu → Prop) → Prop
abbrev TGs2 := List D → Env2 → Mu → (Env2 → Mu → Prop) → Prop
def RG [Jx] (K : PySem.W.Frag) (g : TG) (g2 : TG2) : Prop := ∀ d ρ μ Q2, g2 d ρ μ Q2 → ∀ I σ H v, At K μ I H → Slots K I ρ σ → Rp K I d v → ∀ Q : L2.St → Hp → Prop, GoE K I μ H Q2 Q → g v σ H Q
def RGs [Jx] (K : PySem.W.Frag) (g : TGs) (g2 : TGs2) : Prop := ∀ ds ρ μ Q2, g2 ds ρ μ Q2 → ∀ I σ H vs, At K μ I H → Slots K I ρ σ → RpA K I ds vs → ∀ Q : L2.St → Hp → Prop, GoE K I μ H Q2 Q → g vs σ H Q
/-- it changes these slots alone; it is monotone -/
def OnlyG (g : TG) (js : List Nat) : Prop := ∀ v σ H (Q Q' : L2.St → Hp → Prop), (∀ σ2 H2, σ2.length = σ.length → (∀ i, i ∉ js → σ2[i]? = σ[i]?) → Q σ2 H2 → Q' σ2 H2) → g v σ H Q → g v σ H Q'
def OnlyGs (g : TGs) (js : List Nat) : Prop := ∀ v σ H (Q Q' : L2.St → Hp → Prop), (∀ σ2 H2, σ2.length = σ.length → (∀ i, i ∉ js → σ2[i]? = σ[i]?) → Q σ2 H2 → Q' σ2 H2) → g v σ H Q → g v σ H Q'
structure PG2 [Jx] (X : Cx) (t : Expr) (g : TG) (g2 : TG2) (js : List Nat) : Prop where
  pg : PG X t g
  re : RG X.K g g2
  only : OnlyG g js
structure PGs2 [Jx] (X : Cx) (ts : List Expr) (g : TGs) (g2 : TGs2) (js : List Nat) : Prop where
  pg : PGs X ts g
  re : RGs X.K g g2
  only : OnlyGs g js
def gN (i : Nat) : TG2 := fun d ρ μ Q => Q (ρ.set i (some d)) μ
theorem w_gN {i : Nat} {d : D} {QE : Env2 → Mu → Prop} (q : QE (ρ.set i (some d)) μ) : gN i d ρ μ QE := q
theorem re_gN [Jx] (i : Nat) : RG K (gName i) (gN i) := fun d ρ μ Q2 q I σ H v hA hS r Q k => k _ _ _ _ _ q hA (hS.set i r) Kp.refl
theorem only_gN (i : Nat) : OnlyG (gName i) [i] := fun v σ H Q Q' h q => h _ _ List.length_set (fun j hj => List.getElem?_set_ne (by simpa using (fun z : i = j => hj (by simp [z])))) q
theorem g_nm [Jx] {i : Nat} (h : PG X e (gName i)) : PG2 X e (gName i) (gN i) [i] := ⟨h, re_gN i, only_gN i⟩
def gNil2 : TGs2 := fun ds ρ μ Q => ds = [] ∧ Q ρ μ
def gCons2 (t : TG2) (u : TGs2) : TGs2 := fun ds ρ μ Q => ∃ d r, ds = d :: r ∧ t d ρ μ fun ρ1 μ1 => u r ρ1 μ1 Q
theorem w_gNil {QE : Env2 → Mu → Prop} (q : QE ρ μ) : gNil2 [] ρ μ QE := ⟨rfl, q⟩
theorem w_gCons {t : TG2} {u : TGs2} {d : D} {r : List D} {QE : Env2 → Mu → Prop} (h : t d ρ μ fun ρ1 μ1 => u r ρ1 μ1 QE) : gCons2 t u (d :: r) ρ μ QE := ⟨d, r, rfl, h⟩
theorem gs_nil [Jx] : PGs2 X [] gNil gNil2 [] := ⟨pgs_nil, fun ds ρ μ Q2 q I σ H vs hA hS r Q k => by
  obtain ⟨rfl, q⟩ := q
  exact ⟨r, k _ _ _ _ _ q hA hS Kp.refl⟩, fun v σ H Q Q' h q => ⟨q.1, h _ _ rfl (fun _ _ => rfl) q.2⟩⟩
theorem gs_cons [Jx] {t : TG} {t2 : TG2} {u : TGs} {u2 : TGs2} {is js : List Nat} (h1 : PG2 X e t t2 is) (h2 : PGs2 X es u u2 js) (hs : (assignEach (e :: es) X.env).map (·.2) = assign e X.env :: (assignEach es X.env).map (·.2) := by rfl) : PGs2 X (e :: es) (gCons t u) (gCons2 t2 u2) (is ++ js) :=
  ⟨pgs_cons h1.pg h2.pg hs, fun ds ρ μ Q2 q I σ H vs hA hS r Q k => by
    obtain ⟨d, w, rfl, q⟩ := q
    obtain ⟨v, vr, rfl, r1, r2⟩ := r
    exact ⟨v, vr, rfl, h1.re d ρ μ _ q I σ H v hA hS r1 _ fun ρ1 μ1 σ1 I1 H1 q1 a1 s1 k1 => h2.re w ρ1 μ1 Q2 q1 I1 σ1 H1 vr a1 s1 (r2.mono k1.ex) Q (k.past k1)⟩,
   fun v σ H Q Q' h q => by
    obtain ⟨x, r, rfl, q⟩ := q
    refine ⟨x, r, rfl, h1.only x σ H _ _ (fun σ1 H1 l1 n1 z => ?_) q⟩
    refine h2.only r σ1 H1 _ _ (fun σ2 H2 l2 n2 z => h σ2 H2 (l2.trans l1) (fun i hi => ?_) z) z
    rw [List.mem_append, not_or] at hi
    rw [n2 i hi.2, n1 i hi.1]⟩
/-- a, b = a tuple or a list -/
def gUn (n : Nat) (t : TGs2) : TG2 := fun d ρ μ Q => ∃ ds, asS μ d = some ds ∧ ds.length = n ∧ t ds ρ μ Q
theorem w_gUn {n : Nat} {t : TGs2} {d : D} {ds : List D} {QE : Env2 → Mu → Prop} (h : asS μ d = some ds) (l : ds.length = n) (q : t ds ρ μ QE) : gUn n t d ρ μ QE := ⟨ds, h, l, q⟩
theorem w_gUnT {n : Nat} {t : TGs2} {ds : List D} {QE : Env2 → Mu → Prop} (l : ds.length = n) (q : t ds ρ μ QE) : gUn n t (.tup ds) ρ μ QE := ⟨ds, rfl, l, q⟩
def gOr (g h : TG) : TG := fun v σ H Q => g v σ H Q ∨ h v σ H Q
theorem pg_or {g h : TG} (h1 : PG X e g) (h2 : PG X e h) : PG X e (gOr g h) := ⟨fun pins s σ H v u Q I r q => q.elim (h1.run pins s σ H v u Q I r) (h2.run pins s σ H v u Q I r)⟩
theorem g_un [Jx] {k : Nat} {t : TGs} {t2 : TGs2} {js : List Nat} {n : Nat} (hc : X.calm = true) (h : PGs2 X es t t2 js) (hn : (assignEach es X.env).length = n := by rfl) (hst : (assignEach es X.env).findIdx? (·.1) = none := by rfl) :
    PG2 X (.Tuple es k pos) (gOr (gTup X.K n t) (gUnl X.K n t)) (gUn n t2) js := ⟨pg_or (pg_tup hc h.pg hn hst) (pg_unl hc h.pg hn hst), fun d ρ μ Q2 q I σ H v hA hS r Q k => by
    obtain ⟨ds, e, l, q⟩ := q
    obtain ⟨p, vs, rfl, h1, h2⟩ := asS_at hA r e
    have fin := h.re ds ρ μ Q2 q I σ H vs hA hS h2 Q k
    rcases h1 with h1 | h1
    · exact .inr ⟨p, vs, rfl, h1, h2.length.trans l, fin⟩
    · exact .inl ⟨p, vs, rfl, h1, h2.length.trans l, fin⟩,
   fun v σ H Q Q' hh q => by
    rcases q with ⟨p, xs, e, h1, h2, q⟩ | ⟨p, xs, e, h1, h2, q⟩
    · exact .inl ⟨p, xs, e, h1, h2, h.only xs σ H Q Q' hh q⟩
    · exact .inr ⟨p, xs, e, h1, h2, h.only xs σ H Q Q' hh q⟩⟩

/-! ### statements -/
def dNext : TS2 := fun D ρ μ => D.nx ρ μ
def dSeq (t u : TS2) : TS2 := fun D ρ μ => t { D with nx := u D } ρ μ
def dSeqC (t u : TS2) : TS2 := fun D ρ μ => t { D with nx := Cl (u D) } ρ μ
theorem w_next {n b c : Env2 → Mu → Prop} {r : DK} (h : n ρ μ) : dNext ⟨n, r, b, c⟩ ρ μ := h
theorem w_seq {n b c : Env2 → Mu → Prop} {r : DK} (h : ts2 ⟨tz2 ⟨n, r, b, c⟩, r, b, c⟩ ρ μ) : dSeq ts2 tz2 ⟨n, r, b, c⟩ ρ μ := h
theorem w_seqC {n b c : Env2 → Mu → Prop} {r : DK} (h : ts2 ⟨Cl (tz2 ⟨n, r, b, c⟩), r, b, c⟩ ρ μ) : dSeqC ts2 tz2 ⟨n, r, b, c⟩ ρ μ := h
theorem b_nil [Jx] : PSs2 X [] tNext dNext := ⟨pss_nil, fun D2 ρ μ q I σ H hA hS D g => g.nx ρ μ σ I H q hA hS Kp.refl⟩
theorem b_one [Jx] (h : PS2 X st ts ts2) : PSs2 X [st] ts ts2 := ⟨pss_one h.ps, h.re⟩
theorem b_cons [Jx] (h : PS2 X st ts ts2) (h' : PSs2 X sts tz tz2) : PSs2 X (st :: sts) (tSeq ts tz) (dSeq ts2 tz2) :=
  ⟨pss_cons h.ps h'.ps, fun D2 ρ μ q I σ H hA hS D g => h.re _ ρ μ q I σ H hA hS _ ⟨fun ρ1 μ1 σ1 I1 H1 q1 a1 s1 k1 => h'.re D2 ρ1 μ1 q1 I1 σ1 H1 a1 s1 D (g.past k1), g.rt, g.bk, g.ct⟩⟩
/-- .. with a place to forget, to keep -/
theorem b_consC [Jx] (h : PS2 X st ts ts2) (h' : PSs2 X sts tz tz2) : PSs2 X (st :: sts) (tSeq ts tz) (dSeqC ts2 tz2) :=
  ⟨pss_cons h.ps h'.ps, fun D2 ρ μ q I σ H hA hS D g => h.re _ ρ μ q I σ H hA hS _ ⟨fun ρ1 μ1 σ1 I1 H1 q1 a1 s1 k1 => by
    obtain ⟨ρ2, μ2, sh, q2⟩ := q1
    obtain ⟨I2, a2, s2, k2⟩ := sh X.K I1 σ1 H1 a1 s1
    exact h'.re D2 ρ2 μ2 q2 I2 σ1 H1 a2 s2 D (g.past (k1.trans k2)), g.rt, g.bk, g.ct⟩⟩
theorem s_pass [Jx] : PS2 X (.Pass pos) tNext dNext := ⟨ps_pass, b_nil.re⟩
def dBreak : TS2 := fun D ρ μ => D.bk ρ μ
def dCont : TS2 := fun D ρ μ => D.ct ρ μ
theorem w_break {n b c : Env2 → Mu → Prop} {r : DK} (h : b ρ μ) : dBreak ⟨n, r, b, c⟩ ρ μ := h
theorem w_cont {n b c : Env2 → Mu → Prop} {r : DK} (h : c ρ μ) : dCont ⟨n, r, b, c⟩ ρ μ := h
theorem s_break [Jx] : PS2 X (.Break pos) tBreak dBreak := ⟨ps_break, fun D2 ρ μ q I σ H hA hS D g => g.bk ρ μ σ I H q hA hS Kp.refl⟩
theorem s_continue [Jx] : PS2 X (.Continue pos) tCont dCont := ⟨ps_continue, fun D2 ρ μ q I σ H hA hS D g => g.ct ρ μ σ I H q hA hS Kp.refl⟩
theorem s_doc [Jx] {z j pos'} : PS2 X (.Expr (.Constant (.str z) j pos') pos) tNext dNext := ⟨ps_doc, b_nil.re⟩
def dDrop (t : TE2) : TS2 := fun D ρ μ => t ρ μ fun _ μ1 => D.nx ρ μ1
theorem w_drop {n b c : Env2 → Mu → Prop} {r : DK} (h : te2 ρ μ fun _ μ1 => n ρ μ1) : dDrop te2 ⟨n, r, b, c⟩ ρ μ := h
theorem s_expr [Jx] (h : PE2 X e te te2) (hs : swapsWith e none pos.line X.env = pure false := by rfl) : PS2 X (.Expr e pos) (tDrop te) (dDrop te2) :=
  ⟨ps_expr h.pe hs, fun D2 ρ μ q I σ H hA hS D g => h.re ρ μ _ q I σ H hA hS _ fun d μ1 v I1 H1 q1 a1 k1 r1 => g.nx ρ μ1 σ I1 H1 q1 a1 (hS.mono k1.ex) k1⟩
def dRet (t : TE2) : TS2 := fun D ρ μ => t ρ μ D.rt
theorem w_ret {n b c : Env2 → Mu → Prop} {r : DK} (h : te2 ρ μ r) : dRet te2 ⟨n, r, b, c⟩ ρ μ := h
theorem s_ret [Jx] (h : PE2 X e te te2) : PS2 X (.Return (some e) pos) (tRet te) (dRet te2) := ⟨ps_ret h.pe, fun D2 ρ μ q I σ H hA hS D g => h.re ρ μ _ q I σ H hA hS _ g.rt⟩
def dRetN : TS2 := fun D _ μ => D.rt .non μ
theorem w_retN {n b c : Env2 → Mu → Prop} {r : DK} (h : r .non μ) : dRetN ⟨n, r, b, c⟩ ρ μ := h
theorem s_retN [Jx] : PS2 X (.Return none pos) tRetN dRetN := ⟨ps_retN, fun D2 ρ μ q I σ H hA hS D g => g.rt .non μ .non I H q hA Kp.refl rfl⟩
def dIfS (c : TT2) (t u : TS2) : TS2 := fun D ρ μ => c ρ μ (fun μ1 => t D ρ μ1) (fun μ1 => u D ρ μ1)
theorem w_ifS (h : tt2 ρ μ (fun μ1 => ts2 D2 ρ μ1) (fun μ1 => tz2 D2 ρ μ1)) : dIfS tt2 ts2 tz2 D2 ρ μ := h
theorem s_if [Jx] (hc : PT2 X c tt tt2) (ha : PSs2 X sts ts ts2) (hb : PSs2 X sts' tz tz2) : PS2 X (.If c sts sts' pos) (tIfS tt ts tz) (dIfS tt2 ts2 tz2) :=
  ⟨ps_if hc.pt ha.ps hb.ps, fun D2 ρ μ q I σ H hA hS D g => hc.re ρ μ _ _ q I σ H hA hS _
    (fun μ1 I1 H1 q1 a1 k1 => by
      show ts D σ H1
      exact ha.re D2 ρ μ1 q1 I1 σ H1 a1 (hS.mono k1.ex) D (g.past k1))
    (fun μ1 I1 H1 q1 a1 k1 => by
      show tz D σ H1
      exact hb.re D2 ρ μ1 q1 I1 σ H1 a1 (hS.mono k1.ex) D (g.past k1))⟩
/-- code that is never come to -/
theorem s_never [Jx] : PS2 X st tNever (fun _ _ _ => False) := ⟨ps_never, fun D2 ρ μ q => q.elim⟩
theorem b_never [Jx] : PSs2 X sts tNever (fun _ _ _ => False) := ⟨pss_never, fun D2 ρ μ q => q.elim⟩
def dAsg (t : TE2) (g : TG2) : TS2 := fun D ρ μ => t ρ μ fun d μ1 => g d ρ μ1 D.nx
theorem w_asg {g : TG2} {n b c : Env2 → Mu → Prop} {r : DK} (h : te2 ρ μ fun d μ1 => g d ρ μ1 n) : dAsg te2 g ⟨n, r, b, c⟩ ρ μ := h
theorem re_asg [Jx] {g : TG} {g2 : TG2} (h : RE K te te2) (hg : RG K g g2) : RS K (tAsg te g) (dAsg te2 g2) := fun D2 ρ μ q I σ H hA hS D k =>
  h ρ μ _ q I σ H hA hS _ fun d μ1 v I1 H1 q1 a1 k1 r1 => hg d ρ μ1 _ q1 I1 σ H1 v a1 (hS.mono k1.ex) r1 _ (k.nx.past k1)
theorem s_set [Jx] {i : Nat} {pos' : Pos} (h : PE2 X e te te2) (hN : X.N.Nodup) (hi : X.N[i]? = some x) (hx : Loc X.env.scope x) (hs : swapsWith e (some (.Name x pos')) pos.line X.env = pure false := by rfl) (hf : X.fn x = true ∨ X.env.scope.names.lookup x = some .local := by first | exact .inl rfl | exact .inr rfl | assumption) :
    PS2 X (.Assign [.Name x pos'] e pos) (tAsg te (gName i)) (dAsg te2 (gN i)) := ⟨ps_set hN hi hx h.pe hs hf, re_asg h.re (re_gN i)⟩
theorem s_asg [Jx] {tg : Expr} {g : TG} {g2 : TG2} {js : List Nat} (h : PE2 X e te te2) (hg : PG2 X tg g g2 js) (hs : swapsWithSole [tg] e pos.line X.env = pure false := by rfl) (hw : swappedStores [tg] e X.env = pure none := by rfl)
    (h1 : (assignEach [tg] X.env).map (·.2) = [assign tg X.env] := by rfl) : PS2 X (.Assign [tg] e pos) (tAsg te g) (dAsg te2 g2) := ⟨ps_asg h.pe hg.pg hs hw h1, re_asg h.re hg.re⟩
/-- o[i] = e of an owned list -/
def gIx (to ti : TE2) : TG2 := fun d ρ μ Q => to ρ μ fun o μ1 => ti ρ μ1 fun i μ2 => ∃ p ds k j, o = .adr p ∧ i = .int k ∧ μ2 p = some (.lst ds) ∧ ixN ds.length k = some j ∧ Q ρ (mup μ2 p (.lst (ds.set j d)))
def gIxK (d : D) (ρ : Env2) (Q : Env2 → Mu → Prop) (o i : D) (μ2 : Mu) : Prop := ∃ p ds k j, o = .adr p ∧ i = .int k ∧ μ2 p = some (.lst ds) ∧ ixN ds.length k = some j ∧ Q ρ (mup μ2 p (.lst (ds.set j d)))
theorem w_gIx {ti : TE2} {d : D} {QE : Env2 → Mu → Prop} (h : to2 ρ μ fun o μ1 => ti ρ μ1 fun i μ2 => gIxK d ρ QE o i μ2) : gIx to2 ti d ρ μ QE := h
theorem w_gIxK {d : D} {QE : Env2 → Mu → Prop} {p : Addr} {ds : List D} {k : Int} {j : Nat} (h : μ p = some (.lst ds)) (e : ixN ds.length k = some j) (q : QE ρ (mup μ p (.lst (ds.set j d)))) : gIxK d ρ QE (.adr p) (.int k) μ := ⟨p, ds, k, j, rfl, rfl, h, e, q⟩
theorem re_gIx [Jx] {ti : TE} {ti2 : TE2} (ho : RE K to to2) (hi : RE K ti ti2) : RG K (gSub to ti rSetL) (gIx to2 ti2) := fun d ρ μ Q2 q I σ H v hA hS r Q k =>
  ho ρ μ _ q I σ H hA hS _ fun o μ1 vo I1 H1 q1 a1 k1 r1 => hi ρ μ1 _ q1 I1 σ H1 a1 (hS.mono k1.ex) _ fun i μ2 vi I2 H2 q2 a2 k2 r2 => by
    obtain ⟨p, ds, n, j, rfl, rfl, h, e, q2⟩ := q2
    cases (show vo = _ from r1)
    obtain ⟨_, ob, hh, vs, rfl, hr⟩ := a2.own p _ h
    refine ⟨p, vs, n, j, rfl, r2, hh, by rw [hr.length]; exact e, ?_⟩
    exact k _ _ _ _ _ q2 (a2.put h ⟨_, rfl, hr.set j (r.mono (k1.trans k2).ex)⟩) (hS.mono (k1.trans k2).ex) ((k1.trans k2).trans (Kp.put h))
theorem s_setIx [Jx] {i : Expr} {ti : TE} {ti2 : TE2} {pos' : Pos} (h : PE2 X e te te2) (ho : PE2 X o to to2) (hi : PE2 X i ti ti2) (hs : swapsWithSole [.Subscript o i pos'] e pos.line X.env = pure false := by rfl) (hw : swappedStores [.Subscript o i pos'] e X.env = pure none := by rfl)
    (h1 : (assignEach [.Subscript o i pos'] X.env).map (·.2) = [assign (.Subscript o i pos') X.env] := by rfl)
    (ha : ∀ v, assign (.Subscript o i pos') X.env v = (do
      let ov ← holding [v] (eval o X.env)
      let iv ← holding [v, ov] (eval i X.env)
      standAt pos'
      holding [v, ov, iv] (setItem ov iv v)
      release [v, ov, iv] []) := by intro _; rfl) : PS2 X (.Assign [.Subscript o i pos'] e pos) (tAsg te (gSub to ti rSetL)) (dAsg te2 (gIx to2 ti2)) :=
  ⟨ps_asg h.pe (pg_sub ho.pe hi.pe set_list ha) hs hw h1, re_asg h.re (re_gIx ho.re hi.re)⟩

/-! ### while -/
def dWhile (c : TT2) (tb : TS2) : TS2 := fun D ρ μ => ∃ W : Nat → Env2 → Mu → Prop, (∃ m, Cl (W m) ρ μ) ∧ ∀ m ρ μ, W m ρ μ →
  c ρ μ (fun μ1 => tb { D with nx := Cl (fun ρ μ => ∃ m', m' < m ∧ W m' ρ μ), ct := Cl (fun ρ μ => ∃ m', m' < m ∧ W m' ρ μ), bk := D.nx } ρ μ1) (fun μ1 => D.nx ρ μ1)
theorem w_while {n b c : Env2 → Mu → Prop} {r : DK} (W : Nat → Env2 → Mu → Prop) (m : Nat) (h : Cl (W m) ρ μ) (hs : ∀ m ρ μ, W m ρ μ →
  tt2 ρ μ (fun μ1 => ts2 ⟨Cl (fun ρ μ => ∃ m', m' < m ∧ W m' ρ μ), r, n, Cl (fun ρ μ => ∃ m', m' < m ∧ W m' ρ μ)⟩ ρ μ1) (fun μ1 => n ρ μ1)) : dWhile tt2 ts2 ⟨n, r, b, c⟩ ρ μ := ⟨W, ⟨m, h⟩, hs⟩
theorem s_while [Jx] (hp : PassesOwn (model X.prog X.w) X.A X.env X.xe) (hc : PT2 X c tt tt2) (hb : PSs2 X sts ts ts2) : PS2 X (.While c sts [] pos) (tWhile tt ts) (dWhile tt2 ts2) :=
  ⟨ps_while hp hc.pt hb.ps, fun D2 ρ μ q I σ H hA hS D g => by
    obtain ⟨W, ⟨m0, ρ0, μ0, sh, w0⟩, step⟩ := q
    obtain ⟨I0, a0, s0, k0⟩ := sh X.K I σ H hA hS
    refine ⟨fun m σ' H' => ∃ ρ' μ' I', W m ρ' μ' ∧ At X.K μ' I' H' ∧ Slots X.K I' ρ' σ' ∧ Kp I μ H I' μ' H', ⟨m0, ρ0, μ0, I0, w0, a0, s0, k0⟩, ?_⟩
    rintro m σ' H' ⟨ρ', μ', I', w, a', s', k'⟩
    refine hc.re ρ' μ' _ _ (step m ρ' μ' w) I' σ' H' a' s' _ (fun μ1 I1 H1 q1 a1 k1 => ?_) (fun μ1 I1 H1 q1 a1 k1 => ?_)
    · show ∃ N : L2.St → Hp → Prop, _
      refine ⟨fun σ2 H2 => ∃ m', m' < m ∧ ∃ ρ' μ' I', W m' ρ' μ' ∧ At X.K μ' I' H2 ∧ Slots X.K I' ρ' σ2 ∧ Kp I μ H I' μ' H2, fun σ2 H2 n => n, ?_⟩
      have kk := k'.trans k1
      refine hb.re _ ρ' μ1 q1 I1 σ' H1 a1 (s'.mono k1.ex) _ ⟨?_, g.rt.past kk, g.nx.past kk, ?_⟩
      · rintro ρ2 μ2 σ2 I2 H2 ⟨ρ3, μ3, sh3, m', hm, w3⟩ a2 s2 k2
        obtain ⟨I3, a3, s3, k3⟩ := sh3 X.K I2 σ2 H2 a2 s2
        exact ⟨m', hm, ρ3, μ3, I3, w3, a3, s3, (kk.trans k2).trans k3⟩
      · rintro ρ2 μ2 σ2 I2 H2 ⟨ρ3, μ3, sh3, m', hm, w3⟩ a2 s2 k2
        obtain ⟨I3, a3, s3, k3⟩ := sh3 X.K I2 σ2 H2 a2 s2
        exact ⟨m', hm, ρ3, μ3, I3, w3, a3, s3, (kk.trans k2).trans k3⟩
    · show D.nx σ' H1
      exact g.nx ρ' μ1 σ' I1 H1 q1 a1 (s'.mono k1.ex) (k'.trans k1)⟩

/-! ### what is walked -/
/-- items xs, while G stands -/
def ItD [Jx] (K : PySem.W.Frag) (J : It) (xs : List D) (G : Mu → Prop) (I0 : Hp) : Prop := ∀ (i : Nat) (I : Hp) (μ : Mu) (H : Hp), Exx I0 I → At K μ I H → G μ →
  (i < xs.length → J.go i H ∧ ∀ v H', J.yld i H v H' → ∃ d I', xs[i]? = some d ∧ At K μ I' H' ∧ Kp I μ H I' μ H' ∧ Rp K I' d v) ∧ (xs.length ≤ i → J.stop i H)
abbrev TI2 := Env2 → Mu → (List D → (Mu → Prop) → Mu → Prop) → Prop
def RI [Jx] (K : PySem.W.Frag) (wi : TI) (t : TI2) : Prop := ∀ ρ μ R2, t ρ μ R2 → ∀ I σ H, At K μ I H → Slots K I ρ σ → ∀ R : It → Hp → Prop,
  (∀ J xs G μ' I' H', R2 xs G μ' → At K μ' I' H' → Kp I μ H I' μ' H' → ItD K J xs G I' → R J H') → wi σ H R
structure PI2 [Jx] (X : Cx) (tg iter : Expr) (wi : TI) (t : TI2) : Prop where
  pi : PI X tg iter wi
  re : RI X.K wi t
/-- the turns, one by one -/
def dTurns (G : Mu → Prop) (g : TG2) (tb : TS2) (E : Ends2) : List D → Env2 → Mu → Prop
  | [], ρ, μ => G μ ∧ E.nx ρ μ
  | x :: xs, ρ, μ => G μ ∧ g x ρ μ fun ρ2 μ2 => tb { E with nx := Cl (dTurns G g tb E xs), ct := Cl (dTurns G g tb E xs), bk := E.nx } ρ2 μ2
def dFor (wi : TI2) (g : TG2) (tb : TS2) : TS2 := fun D ρ μ => wi ρ μ fun xs G μ1 => Cl (dTurns G g tb D xs) ρ μ1
theorem w_for {wi : TI2} {g : TG2} (h : wi ρ μ fun xs G μ1 => Cl (dTurns G g ts2 D2 xs) ρ μ1) : dFor wi g ts2 D2 ρ μ := h
theorem w_turn0 {G : Mu → Prop} {g : TG2} {n b c : Env2 → Mu → Prop} {r : DK} (h : G μ) (q : n ρ μ) : dTurns G g ts2 ⟨n, r, b, c⟩ [] ρ μ := ⟨h, q⟩
theorem w_turn {G : Mu → Prop} {g : TG2} {d : D} {xs : List D} {n b c : Env2 → Mu → Prop} {r : DK} (h : G μ) (q : g d ρ μ fun ρ2 μ2 => ts2 ⟨Cl (dTurns G g ts2 ⟨n, r, b, c⟩ xs), r, n, Cl (dTurns G g ts2 ⟨n, r, b, c⟩ xs)⟩ ρ2 μ2) : dTurns G g ts2 ⟨n, r, b, c⟩ (d :: xs) ρ μ := ⟨h, q⟩
/-- by what holds between the turns: of the items that are left -/
theorem w_turns {G : Mu → Prop} {g : TG2} {n b c : Env2 → Mu → Prop} {r : DK} (Iv : List D → Env2 → Mu → Prop) (hG : ∀ xs ρ μ, Iv xs ρ μ → G μ)
    (hs : ∀ d xs ρ μ, Iv (d :: xs) ρ μ → ∀ N : Env2 → Mu → Prop, (∀ ρ μ, Iv xs ρ μ → N ρ μ) → g d ρ μ fun ρ2 μ2 => ts2 ⟨Cl N, r, n, Cl N⟩ ρ2 μ2) (hd : ∀ ρ μ, Iv [] ρ μ → n ρ μ) :
    ∀ xs ρ μ, Iv xs ρ μ → dTurns G g ts2 ⟨n, r, b, c⟩ xs ρ μ
  | [], ρ, μ, h => ⟨hG _ _ _ h, hd _ _ h⟩
  | d :: xs, ρ, μ, h => ⟨hG _ _ _ h, hs d xs ρ μ h _ fun ρ μ h => w_turns Iv hG hs hd xs ρ μ h⟩
theorem s_for [Jx] {tg iter : Expr} {wi : TI} {wi2 : TI2} {g : TG} {g2 : TG2} {js : List Nat} (hp : PassesOwn (model X.prog X.w) X.A X.env X.xe) (hc : X.calm = true) (hi : PI2 X tg iter wi wi2) (hg : PG2 X tg g g2 js) (hb : PSs2 X sts ts ts2)
    (hs : ∀ x, foldedSetIterable iter X.env x = pure x := by intro _; rfl) : PS2 X (.For tg iter sts [] pos) (tFor wi g ts) (dFor wi2 g2 ts2) :=
  ⟨ps_for hp hc hi.pi hg.pg hb.ps hs, fun D2 ρ μ q I σ H hA hS D gg => by
    refine hi.re ρ μ _ q I σ H hA hS _ fun J xs G μ1 I1 H1 q1 a1 k1 hJ => ?_
    obtain ⟨ρ0, μ0, sh0, q1⟩ := q1
    obtain ⟨I0, a0, s0, k0⟩ := sh0 X.K I1 σ H1 a1 (hS.mono k1.ex)
    refine ⟨fun i m σ' H' => m = xs.length - i ∧ i ≤ xs.length ∧ ∃ ρ' μ' I', dTurns G g2 ts2 D2 (xs.drop i) ρ' μ' ∧ At X.K μ' I' H' ∧ Slots X.K I' ρ' σ' ∧ Kp I μ H I' μ' H' ∧ Exx I1 I', ⟨xs.length, by simp, Nat.zero_le _, ρ0, μ0, I0, by simpa using q1, a0, s0, k1.trans k0, k0.ex⟩, ?_⟩
    rintro i m σ' H' ⟨rfl, hi', ρ', μ', I', w, a', s', k', e'⟩
    by_cases hlt : i < xs.length
    · have hd : xs.drop i = xs[i] :: xs.drop (i + 1) := by rw [List.drop_eq_getElem_cons hlt]
      rw [hd] at w
      obtain ⟨hG, w⟩ := w
      obtain ⟨⟨go, yl⟩, _⟩ := (fun z => ⟨z.1 hlt, z.2⟩ : _ → _ ∧ _) (hJ i I' μ' H' e' a' hG)
      refine .inr ⟨go, fun σ2 H2 => ∃ ρ' μ' I', dTurns G g2 ts2 D2 (xs.drop (i + 1)) ρ' μ' ∧ At X.K μ' I' H2 ∧ Slots X.K I' ρ' σ2 ∧ Kp I μ H I' μ' H2 ∧ Exx I1 I', fun σ2 H2 n => ⟨xs.length - (i + 1), by omega, rfl, hlt, n⟩, fun v H2 y => ?_⟩
      obtain ⟨d, I2, e2, a2, k2, r2⟩ := yl v H2 y
      rw [List.getElem?_eq_getElem hlt] at e2
      cases e2
      have kk := k'.trans k2
      refine hg.re _ ρ' μ' _ w I2 σ' H2 v a2 (s'.mono k2.ex) r2 _ fun ρ3 μ3 σ3 I3 H3 q3 a3 s3 k3 => ?_
      have kkk := kk.trans k3
      have nx : GoE X.K I3 μ3 H3 (Cl (dTurns G g2 ts2 D2 (xs.drop (i + 1)))) (fun σ2 H2 => ∃ ρ' μ' I', dTurns G g2 ts2 D2 (xs.drop (i + 1)) ρ' μ' ∧ At X.K μ' I' H2 ∧ Slots X.K I' ρ' σ2 ∧ Kp I μ H I' μ' H2 ∧ Exx I1 I') := by
        rintro ρ4 μ4 σ4 I4 H4 ⟨ρ5, μ5, sh, w5⟩ a4 s4 k4
        obtain ⟨I5, a5, s5, k5⟩ := sh X.K I4 σ4 H4 a4 s4
        exact ⟨ρ5, μ5, I5, w5, a5, s5, (kkk.trans k4).trans k5, e'.trans (k2.ex.trans (k3.ex.trans (k4.ex.trans k5.ex)))⟩
      exact hb.re _ ρ3 μ3 q3 I3 σ3 H3 a3 s3 _ ⟨nx, gg.rt.past kkk, gg.nx.past kkk, nx⟩
    · have e : i = xs.length := by omega
      subst e
      rw [List.drop_length] at w
      exact .inl ⟨(hJ _ I' μ' H' e' a' w.1).2 (Nat.le_refl _), gg.nx ρ' μ' σ' I' H' w.2 a' s' k'⟩⟩
/-- a list, a tuple -/
def Still (x : D) (ds : List D) : Mu → Prop := fun μ => asL μ x = some ds
def jL (t : TE2) : TI2 := fun ρ μ R => t ρ μ fun x μ1 => ∃ ds, asL μ1 x = some ds ∧ R ds (Still x ds) μ1
def jLK (R : List D → (Mu → Prop) → Mu → Prop) : DK := fun x μ1 => ∃ ds, asL μ1 x = some ds ∧ R ds (Still x ds) μ1
def jT (t : TE2) : TI2 := fun ρ μ R => t ρ μ fun x μ1 => ∃ ds, x = .tup ds ∧ R ds (fun _ => True) μ1
def jTK (R : List D → (Mu → Prop) → Mu → Prop) : DK := fun x μ1 => ∃ ds, x = .tup ds ∧ R ds (fun _ => True) μ1
theorem w_jL {R : List D → (Mu → Prop) → Mu → Prop} (h : te2 ρ μ (jLK R)) : jL te2 ρ μ R := h
theorem w_jLK {R : List D → (Mu → Prop) → Mu → Prop} {x : D} {ds : List D} (h : asL μ x = some ds) (q : R ds (Still x ds) μ) : jLK R x μ := ⟨ds, h, q⟩
theorem w_jT {R : List D → (Mu → Prop) → Mu → Prop} (h : te2 ρ μ (jTK R)) : jT te2 ρ μ R := h
theorem w_jTK {R : List D → (Mu → Prop) → Mu → Prop} {ds : List D} (q : R ds (fun _ => True) μ) : jTK R (.tup ds) μ := ⟨ds, rfl, q⟩
theorem itd_l [Jx] {I : Hp} {x : D} {p : Addr} {ds : List D} (r : Rp K I x (.ref p)) : ItD K (Itl K p) ds (Still x ds) I := fun i I' μ' H' e a g => by
  obtain ⟨p', vs, e1, h1, h2⟩ := asL_at a (r.mono e) g
  cases e1
  refine ⟨fun hi => ?_, fun hi => ⟨vs, SqL.of h1, by rw [h2.length]; exact hi⟩⟩
  obtain ⟨v, g1, g2⟩ := h2.get (List.getElem?_eq_getElem hi)
  refine ⟨⟨vs, v, SqL.of h1, g1⟩, fun w H2 y => ?_⟩
  obtain ⟨rfl, y⟩ := y
  have ew := y vs (SqL.of h1)
  rw [g1] at ew; cases ew
  exact ⟨_, I', List.getElem?_eq_getElem hi, a, Kp.refl, g2⟩
theorem j_l [Jx] {tg : Expr} (h : PE2 X e te te2) : PI2 X tg e (iList X.K te) (jL te2) := ⟨pi_list h.pe, fun ρ μ R2 q I σ H hA hS R k => h.re ρ μ _ q I σ H hA hS _ fun x μ1 v I1 H1 q1 a1 k1 r1 => by
  obtain ⟨ds, e, q1⟩ := q1
  obtain ⟨p, vs, rfl, h1, h2⟩ := asL_at a1 r1 e
  exact ⟨p, rfl, ⟨vs, SqL.of h1⟩, k _ _ _ _ _ _ q1 a1 k1 (itd_l r1)⟩⟩
theorem j_t [Jx] {tg : Expr} (h : PE2 X e te te2) : PI2 X tg e (iTup X.K te) (jT te2) := ⟨pi_tup h.pe, fun ρ μ R2 q I σ H hA hS R k => h.re ρ μ _ q I σ H hA hS _ fun x μ1 v I1 H1 q1 a1 k1 r1 => by
  obtain ⟨ds, rfl, q1⟩ := q1
  obtain ⟨p, vs, rfl, h1, h2⟩ := r1
  refine ⟨p, rfl, ⟨vs, (show Exx I1 H1 from a1.sub).sqt h1⟩, k _ _ _ _ _ _ q1 a1 k1 fun i I' μ' H' e a _ => ?_⟩
  have hs := (show Exx I' H' from a.sub).sqt (e.sqt h1)
  have h2' := h2.mono e
  refine ⟨fun hi => ?_, fun hi => ⟨vs, hs, by rw [h2.length]; exact hi⟩⟩
  obtain ⟨v, g1, g2⟩ := h2'.get (List.getElem?_eq_getElem hi)
  refine ⟨⟨vs, v, hs, g1⟩, fun w H2 y => ?_⟩
  obtain ⟨rfl, y⟩ := y
  have ew := y vs hs
  rw [g1] at ew; cases ew
  exact ⟨_, I', List.getElem?_eq_getElem hi, a, Kp.refl, g2⟩⟩
/-- range -/
def rngD (lo : Int) (n : Nat) : List D := (List.range n).map fun i : Nat => D.int (lo + (i : Int))
theorem rngD_len (lo : Int) (n : Nat) : (rngD lo n).length = n := by unfold rngD; rw [List.length_map, List.length_range]
theorem rngD_get {lo : Int} {n i : Nat} (h : i < n) : (rngD lo n)[i]? = some (.int (lo + (i : Int))) := by
  unfold rngD
  rw [List.getElem?_map, List.getElem?_range h]; rfl
theorem itd_r [Jx] {I : Hp} (lo : Int) (n : Nat) : ItD K (Itr lo n) (rngD lo n) (fun _ => True) I := fun i I' μ' H' e a _ => by
  rw [rngD_len]
  refine ⟨fun hi => ⟨hi, fun w H2 y => ?_⟩, fun hi => hi⟩
  obtain ⟨rfl, rfl⟩ := y
  exact ⟨_, I', rngD_get hi, a, Kp.refl, rfl⟩
def jR1 (ta : TA2) : TI2 := fun ρ μ R => ta ρ μ fun xs μ1 => ∃ j : Int, xs = [.int j] ∧ -(2 ^ 62) ≤ j ∧ j < 2 ^ 62 ∧ R (rngD 0 j.toNat) (fun _ => True) μ1
def jR1K (R : List D → (Mu → Prop) → Mu → Prop) : List D → Mu → Prop := fun xs μ1 => ∃ j : Int, xs = [.int j] ∧ -(2 ^ 62) ≤ j ∧ j < 2 ^ 62 ∧ R (rngD 0 j.toNat) (fun _ => True) μ1
def jR2 (ta : TA2) : TI2 := fun ρ μ R => ta ρ μ fun xs μ1 => ∃ i j : Int, xs = [.int i, .int j] ∧ (-(2 ^ 62) ≤ i ∧ i < 2 ^ 62 ∧ -(2 ^ 62) ≤ j ∧ j < 2 ^ 62) ∧ R (rngD i (j - i).toNat) (fun _ => True) μ1
def jR2K (R : List D → (Mu → Prop) → Mu → Prop) : List D → Mu → Prop := fun xs μ1 => ∃ i j : Int, xs = [.int i, .int j] ∧ (-(2 ^ 62) ≤ i ∧ i < 2 ^ 62 ∧ -(2 ^ 62) ≤ j ∧ j < 2 ^ 62) ∧ R (rngD i (j - i).toNat) (fun _ => True) μ1
theorem w_jR1 {R : List D → (Mu → Prop) → Mu → Prop} (h : tl2 ρ μ (jR1K R)) : jR1 tl2 ρ μ R := h
theorem w_jR1K {R : List D → (Mu → Prop) → Mu → Prop} {j : Int} (h1 : -(2 ^ 62) ≤ j) (h2 : j < 2 ^ 62) (q : R (rngD 0 j.toNat) (fun _ => True) μ) : jR1K R [.int j] μ := ⟨j, rfl, h1, h2, q⟩
theorem w_jR2 {R : List D → (Mu → Prop) → Mu → Prop} (h : tl2 ρ μ (jR2K R)) : jR2 tl2 ρ μ R := h
theorem w_jR2K {R : List D → (Mu → Prop) → Mu → Prop} {i j : Int} (h : -(2 ^ 62) ≤ i ∧ i < 2 ^ 62 ∧ -(2 ^ 62) ≤ j ∧ j < 2 ^ 62) (q : R (rngD i (j - i).toNat) (fun _ => True) μ) : jR2K R [.int i, .int j] μ := ⟨i, j, rfl, h, q⟩
theorem j_r1 [Jx] {tg : Expr} (hg : Gl X "range") (hm : X.mg "range" = none) (ha : PA2 X [a] tl tl2) (hs : starEach [a] X.env = [(false, eval a X.env)] := by rfl) : PI2 X tg (.Call (.Name "range" p) [a] [] pos) (iRng1 tl) (jR1 tl2) :=
  ⟨pi_range1 hg hm ha.pa hs, fun ρ μ R2 q I σ H hA hS R k => ha.re ρ μ _ q I σ H hA hS _ fun xs μ1 vs I1 H1 q1 a1 k1 r1 => by
    obtain ⟨j, rfl, h1, h2, q1⟩ := q1
    obtain ⟨v, rfl, e⟩ := r1.one_inv
    cases (show v = _ from e)
    exact ⟨j, rfl, h1, h2, k _ _ _ _ _ _ q1 a1 k1 (itd_r _ _)⟩⟩
theorem j_r2 [Jx] {tg : Expr} (hg : Gl X "range") (hm : X.mg "range" = none) (ha : PA2 X [a, b] tl tl2) (hs : starEach [a, b] X.env = [(false, eval a X.env), (false, eval b X.env)] := by rfl) (hs2 : starEach [b] X.env = [(false, eval b X.env)] := by rfl) : PI2 X tg (.Call (.Name "range" p) [a, b] [] pos) (iRng2 tl) (jR2 tl2) :=
  ⟨pi_range2 hg hm ha.pa hs hs2, fun ρ μ R2 q I σ H hA hS R k => ha.re ρ μ _ q I σ H hA hS _ fun xs μ1 vs I1 H1 q1 a1 k1 r1 => by
    obtain ⟨i, j, rfl, h, q1⟩ := q1
    obtain ⟨v, w, rfl, e1, e2⟩ := r1.two_inv
    cases (show v = _ from e1)
    cases (show w = _ from e2)
    exact ⟨i, j, rfl, h, k _ _ _ _ _ _ q1 a1 k1 (itd_r _ _)⟩⟩
/-- a text, sign by sign -/
def sgnD (z : Str) : List D := z.cps.toList.map fun c => D.str ⟨#[c]⟩
def jS (t : TE2) : TI2 := fun ρ μ R => t ρ μ fun x μ1 => ∃ z, x = .str z ∧ R (sgnD z) (fun _ => True) μ1
def jSK (R : List D → (Mu → Prop) → Mu → Prop) : DK := fun x μ1 => ∃ z, x = .str z ∧ R (sgnD z) (fun _ => True) μ1
theorem w_jS {R : List D → (Mu → Prop) → Mu → Prop} (h : te2 ρ μ (jSK R)) : jS te2 ρ μ R := h
theorem w_jSK {R : List D → (Mu → Prop) → Mu → Prop} {z : Str} (q : R (sgnD z) (fun _ => True) μ) : jSK R (.str z) μ := ⟨z, rfl, q⟩
theorem j_s [Jx] {tg : Expr} (h : PE2 X e te te2) : PI2 X tg e (iStr te) (jS te2) := ⟨pi_str h.pe, fun ρ μ R2 q I σ H hA hS R k => h.re ρ μ _ q I σ H hA hS _ fun x μ1 v I1 H1 q1 a1 k1 r1 => by
  obtain ⟨z, rfl, q1⟩ := q1
  refine ⟨z, r1, k _ _ _ _ _ _ q1 a1 k1 fun i I' μ' H' e a _ => ?_⟩
  have el : (sgnD z).length = z.cps.size := by unfold sgnD; rw [List.length_map, Array.length_toList]
  rw [el]
  refine ⟨fun hi => ⟨hi, fun w H2 y => ?_⟩, fun hi => hi⟩
  obtain ⟨rfl, c, hc, rfl⟩ := y
  refine ⟨.str ⟨#[c]⟩, I', ?_, a, Kp.refl, rfl⟩
  unfold sgnD
  rw [List.getElem?_map, Array.getElem?_toList, hc]; rfl⟩
end
end Y

set_option Elab.async false
set_option linter.all false
set_option maxRecDepth 100000
set_option maxHeartbeats 4000000
namespace Y
open PySem PySem.Spec PyProof.Rows L2
section
variable {X : Cx} {K : PySem.W.Frag} {a b c e o : Expr} {es rest : List Expr} {ta tb tc te to : TE} {ta2 tb2 tc2 te2 to2 : TE2} {pos apos cpos p tpos : Pos} {tt tu : TT} {tt2 tu2 : TT2} {tl : TA} {tl2 : TA2} {x : Str}
variable {ρ : Env2} {μ : Mu} {Q : DK} {T F : Mu → Prop} {st : Stmt} {sts sts' : List Stmt} {ts tz : TS} {ts2 tz2 : TS2} {D2 : Ends2}

/-! ### zip, enumerate, reversed -/
def prsD : List D → List D → List D
  | x :: xs, y :: ys => .tup [x, y] :: prsD xs ys
  | _, _ => []
theorem prsD_len : ∀ xs ys, (prsD xs ys).length = min xs.length ys.length
  | [], _ => by simp [prsD]
  | _ :: _, [] => by simp [prsD]
  | x :: xs, y :: ys => by simp [prsD, prsD_len xs ys]
theorem prsD_get : ∀ {xs ys : List D} {i : Nat} {x y : D}, xs[i]? = some x → ys[i]? = some y → (prsD xs ys)[i]? = some (.tup [x, y])
  | [], _, _, _, _, h, _ => by simp at h
  | _ :: _, [], _, _, _, _, h => by simp at h
  | _ :: xs, _ :: ys, 0, _, _, h, h' => by simp at h h'; simp [prsD, h, h']
  | _ :: xs, _ :: ys, i + 1, x, y, h, h' => by simpa [prsD] using prsD_get (xs := xs) (ys := ys) (i := i) (by simpa using h) (by simpa using h')
def enuD : Nat → List D → List D
  | _, [] => []
  | n, x :: xs => .tup [.int (n : Nat), x] :: enuD (n + 1) xs
theorem enuD_len : ∀ n xs, (enuD n xs).length = xs.length
  | _, [] => rfl
  | n, x :: xs => by show (enuD (n + 1) xs).length + 1 = xs.length + 1; rw [enuD_len (n + 1) xs]
theorem enuD_get : ∀ {xs : List D} {n i : Nat} {x : D}, xs[i]? = some x → (enuD n xs)[i]? = some (.tup [.int ((n + i : Nat) : Int), x])
  | [], _, _, _, h => by simp at h
  | _ :: xs, n, 0, _, h => by simp at h; simp [enuD, h]
  | _ :: xs, n, i + 1, x, h => by
    have := enuD_get (xs := xs) (n := n + 1) (i := i) (x := x) (by simpa using h)
    rw [show n + 1 + i = n + (i + 1) by omega] at this
    simpa [enuD] using this
theorem pair_new [Jx] {I H : Hp} {T : Addr} {d1 d2 : D} {v1 v2 : V} (a : At K μ I H) (hT : H T = none) (r1 : Rp K I d1 v1) (r2 : Rp K I d2 v2) :
    ∃ I', At K μ I' (upd H T (.tup [v1, v2])) ∧ Kp I μ H I' μ (upd H T (.tup [v1, v2])) ∧ Rp K I' (.tup [d1, d2]) (.ref T) :=
  have e := Exx.new (o := HO.tup [v1, v2]) (a.noI hT)
  ⟨_, a.laid hT, Kp.laid hT (a.noI hT), ⟨T, [v1, v2], rfl, SqT.of upd_same, RpA.cons (r1.mono e) (RpA.one (r2.mono e))⟩⟩
theorem itd_z [Jx] {I : Hp} {x y : D} {p q : Addr} {ds es : List D} (r : Rp K I x (.ref p)) (r' : Rp K I y (.ref q)) : ItD K (Itz K p q) (prsD ds es) (fun μ => Still x ds μ ∧ Still y es μ) I := fun i I' μ' H' e a g => by
  obtain ⟨_, vs, e1, h1, h2⟩ := asL_at a (r.mono e) g.1
  cases e1
  obtain ⟨_, ws, e1, h3, h4⟩ := asL_at a (r'.mono e) g.2
  cases e1
  rw [prsD_len]
  refine ⟨fun hi => ?_, fun hi => ⟨vs, ws, SqL.of h1, SqL.of h3, by rw [h2.length, h4.length]; omega⟩⟩
  have hi1 : i < ds.length := by omega
  have hi2 : i < es.length := by omega
  obtain ⟨v, g1, g2⟩ := h2.get (List.getElem?_eq_getElem hi1)
  obtain ⟨w, g3, g4⟩ := h4.get (List.getElem?_eq_getElem hi2)
  refine ⟨⟨vs, ws, v, w, SqL.of h1, SqL.of h3, g1, g3⟩, fun u H2 y => ?_⟩
  obtain ⟨T, a1, a2, rfl, hT, rfl, y1, y2⟩ := y
  have e1 := y1 vs (SqL.of h1)
  rw [g1] at e1; cases e1
  have e2 := y2 ws (SqL.of h3)
  rw [g3] at e2; cases e2
  obtain ⟨I2, b1, b2, b3⟩ := pair_new a hT g2 g4
  exact ⟨_, I2, prsD_get (List.getElem?_eq_getElem hi1) (List.getElem?_eq_getElem hi2), b1, b2, b3⟩
theorem itd_zT [Jx] {I : Hp} {p q : Addr} {ds es : List D} {vs ws : List V} (h1 : SqT K I p vs) (h2 : RpA K I ds vs) (h3 : SqT K I q ws) (h4 : RpA K I es ws) : ItD K (RZ.ItzT K p q) (prsD ds es) (fun _ => True) I := fun i I' μ' H' e a _ => by
  have h1 := (show Exx I' H' from a.sub).sqt (e.sqt h1)
  have h3 := (show Exx I' H' from a.sub).sqt (e.sqt h3)
  have h2 := h2.mono e
  have h4 := h4.mono e
  rw [prsD_len]
  refine ⟨fun hi => ?_, fun hi => ⟨vs, ws, h1, h3, by rw [h2.length, h4.length]; omega⟩⟩
  have hi1 : i < ds.length := by omega
  have hi2 : i < es.length := by omega
  obtain ⟨v, g1, g2⟩ := h2.get (List.getElem?_eq_getElem hi1)
  obtain ⟨w, g3, g4⟩ := h4.get (List.getElem?_eq_getElem hi2)
  refine ⟨⟨vs, ws, v, w, h1, h3, g1, g3⟩, fun u H2 y => ?_⟩
  obtain ⟨T, a1, a2, rfl, hT, rfl, y1, y2⟩ := y
  have e1 := y1 vs h1
  rw [g1] at e1; cases e1
  have e2 := y2 ws h3
  rw [g3] at e2; cases e2
  obtain ⟨I2, b1, b2, b3⟩ := pair_new a hT g2 g4
  exact ⟨_, I2, prsD_get (List.getElem?_eq_getElem hi1) (List.getElem?_eq_getElem hi2), b1, b2, b3⟩
def jZ (ta : TA2) : TI2 := fun ρ μ R => ta ρ μ fun xs μ1 => (∃ x y ds es, xs = [x, y] ∧ asL μ1 x = some ds ∧ asL μ1 y = some es ∧ R (prsD ds es) (fun μ => Still x ds μ ∧ Still y es μ) μ1) ∨ ∃ ds es, xs = [.tup ds, .tup es] ∧ R (prsD ds es) (fun _ => True) μ1
def jZK (R : List D → (Mu → Prop) → Mu → Prop) : List D → Mu → Prop := fun xs μ1 => (∃ x y ds es, xs = [x, y] ∧ asL μ1 x = some ds ∧ asL μ1 y = some es ∧ R (prsD ds es) (fun μ => Still x ds μ ∧ Still y es μ) μ1) ∨ ∃ ds es, xs = [.tup ds, .tup es] ∧ R (prsD ds es) (fun _ => True) μ1
theorem w_jZ {R : List D → (Mu → Prop) → Mu → Prop} (h : tl2 ρ μ (jZK R)) : jZ tl2 ρ μ R := h
theorem w_jZL {R : List D → (Mu → Prop) → Mu → Prop} {x y : D} {ds es : List D} (h1 : asL μ x = some ds) (h2 : asL μ y = some es) (q : R (prsD ds es) (fun μ => Still x ds μ ∧ Still y es μ) μ) : jZK R [x, y] μ := .inl ⟨x, y, ds, es, rfl, h1, h2, q⟩
theorem w_jZT {R : List D → (Mu → Prop) → Mu → Prop} {ds es : List D} (q : R (prsD ds es) (fun _ => True) μ) : jZK R [.tup ds, .tup es] μ := .inr ⟨ds, es, rfl, q⟩
theorem j_z [Jx] {elts : List Expr} {kk : Nat} (hg : Gl X "zip") (hm : X.mg "zip" = none) (ha : PA2 X [a, b] tl tl2) (hs : starEach [a, b] X.env = (false, eval a X.env) :: starEach [b] X.env := by rfl) (hpl : (backTo pos (starEach [b] X.env)).any (·.1) = false := by rfl) :
    PI2 X (.Tuple elts kk tpos) (.Call (.Name "zip" p) [a, b] [] pos) (RZ.iZipA X.K tl) (jZ tl2) :=
  ⟨RZ.pi_zipA hg hm ha.pa hs hpl, fun ρ μ R2 q I σ H hA hS R k => ha.re ρ μ _ q I σ H hA hS _ fun xs μ1 vs I1 H1 q1 a1 k1 r1 => by
    rcases q1 with ⟨x, y, ds, es, rfl, h1, h2, q1⟩ | ⟨ds, es, rfl, q1⟩
    · obtain ⟨v, w, rfl, e1, e2⟩ := r1.two_inv
      obtain ⟨p1, us, rfl, g1, g2⟩ := asL_at a1 e1 h1
      obtain ⟨p2, ws, rfl, g3, g4⟩ := asL_at a1 e2 h2
      exact ⟨p1, p2, us, ws, rfl, .inl ⟨SqL.of g1, SqL.of g3, k _ _ _ _ _ _ q1 a1 k1 (itd_z e1 e2)⟩⟩
    · obtain ⟨v, w, rfl, e1, e2⟩ := r1.two_inv
      obtain ⟨p1, us, rfl, g1, g2⟩ := e1
      obtain ⟨p2, ws, rfl, g3, g4⟩ := e2
      have hs : Exx I1 H1 := a1.sub
      exact ⟨p1, p2, us, ws, rfl, .inr ⟨hs.sqt g1, hs.sqt g3, k _ _ _ _ _ _ q1 a1 k1 (itd_zT g1 g2 g3 g4)⟩⟩⟩
def jE (ta : TA2) : TI2 := fun ρ μ R => ta ρ μ fun xs μ1 => ∃ x ds, xs = [x] ∧ asL μ1 x = some ds ∧ R (enuD 0 ds) (Still x ds) μ1
def jEK (R : List D → (Mu → Prop) → Mu → Prop) : List D → Mu → Prop := fun xs μ1 => ∃ x ds, xs = [x] ∧ asL μ1 x = some ds ∧ R (enuD 0 ds) (Still x ds) μ1
theorem w_jE {R : List D → (Mu → Prop) → Mu → Prop} (h : tl2 ρ μ (jEK R)) : jE tl2 ρ μ R := h
theorem w_jEL {R : List D → (Mu → Prop) → Mu → Prop} {x : D} {ds : List D} (h1 : asL μ x = some ds) (q : R (enuD 0 ds) (Still x ds) μ) : jEK R [x] μ := ⟨x, ds, rfl, h1, q⟩
theorem j_e [Jx] {elts : List Expr} {kk : Nat} (hg : Gl X "enumerate") (hm : X.mg "enumerate" = none) (ha : PA2 X [a] tl tl2) (hs : starEach [a] X.env = [(false, eval a X.env)] := by rfl) :
    PI2 X (.Tuple elts kk tpos) (.Call (.Name "enumerate" p) [a] [] pos) (iEnum X.K tl) (jE tl2) :=
  ⟨pi_enum hg hm ha.pa hs, fun ρ μ R2 q I σ H hA hS R k => ha.re ρ μ _ q I σ H hA hS _ fun xs μ1 vs I1 H1 q1 a1 k1 r1 => by
    obtain ⟨x, ds, rfl, h1, q1⟩ := q1
    obtain ⟨v, rfl, e1⟩ := r1.one_inv
    obtain ⟨p1, us, rfl, g1, g2⟩ := asL_at a1 e1 h1
    refine ⟨p1, us, rfl, SqL.of g1, k _ _ _ _ _ _ q1 a1 k1 fun i I' μ' H' e a g => ?_⟩
    obtain ⟨_, vs, e1', h1, h2⟩ := asL_at a (e1.mono e) g
    cases e1'
    rw [enuD_len]
    refine ⟨fun hi => ?_, fun hi => ⟨vs, SqL.of h1, by rw [h2.length]; omega⟩⟩
    obtain ⟨v, g1, g2⟩ := h2.get (List.getElem?_eq_getElem hi)
    refine ⟨⟨vs, v, SqL.of h1, g1⟩, fun u H2 y => ?_⟩
    obtain ⟨T, a1, rfl, hT, rfl, y1⟩ := y
    have e1 := y1 vs (SqL.of h1)
    rw [g1] at e1; cases e1
    obtain ⟨I2, b1, b2, b3⟩ := pair_new (d1 := .int (i : Nat)) (v1 := .int (i : Nat)) a hT rfl g2
    have eg := enuD_get (n := 0) (List.getElem?_eq_getElem hi)
    rw [Nat.zero_add] at eg
    exact ⟨_, I2, eg, b1, b2, b3⟩⟩
def jV (t : TE2) : TI2 := fun ρ μ R => t ρ μ fun x μ1 => (∃ ds, asL μ1 x = some ds ∧ R ds.reverse (Still x ds) μ1) ∨ ∃ ds, x = .tup ds ∧ R ds.reverse (fun _ => True) μ1
def jVK (R : List D → (Mu → Prop) → Mu → Prop) : DK := fun x μ1 => (∃ ds, asL μ1 x = some ds ∧ R ds.reverse (Still x ds) μ1) ∨ ∃ ds, x = .tup ds ∧ R ds.reverse (fun _ => True) μ1
theorem w_jV {R : List D → (Mu → Prop) → Mu → Prop} (h : te2 ρ μ (jVK R)) : jV te2 ρ μ R := h
theorem w_jVL {R : List D → (Mu → Prop) → Mu → Prop} {x : D} {ds : List D} (h1 : asL μ x = some ds) (q : R ds.reverse (Still x ds) μ) : jVK R x μ := .inl ⟨ds, h1, q⟩
theorem w_jVT {R : List D → (Mu → Prop) → Mu → Prop} {ds : List D} (q : R ds.reverse (fun _ => True) μ) : jVK R (.tup ds) μ := .inr ⟨ds, rfl, q⟩
theorem rev_get {α : Type} {l : List α} {i : Nat} (h : i < l.length) : l.reverse[i]? = l[l.length - 1 - i]? := by rw [List.getElem?_reverse h]
theorem j_v [Jx] {tg : Expr} (hg : Gl X "reversed") (hm : X.mg "reversed" = none) (he : PE2 X e te te2) (hs : starEach [e] X.env = (false, eval e X.env) :: starEach [] X.env := by rfl) : PI2 X tg (.Call (.Name "reversed" p) [e] [] pos) (RT.iRevA X.K te) (jV te2) :=
  ⟨RT.pi_revA hg hm he.pe hs, fun ρ μ R2 q I σ H hA hS R k => he.re ρ μ _ q I σ H hA hS _ fun x μ1 v I1 H1 q1 a1 k1 r1 => by
    rcases q1 with ⟨ds, h, q1⟩ | ⟨ds, rfl, q1⟩
    · obtain ⟨p1, us, rfl, g1, g2⟩ := asL_at a1 r1 h
      have el : us.length = ds.length := g2.length
      refine ⟨p1, us, rfl, .inl ⟨SqL.of g1, k _ _ _ _ _ _ q1 a1 k1 fun i I' μ' H' e a g => ?_⟩⟩
      obtain ⟨_, vs, e1', h1, h2⟩ := asL_at a (r1.mono e) g
      cases e1'
      rw [List.length_reverse, el]
      refine ⟨fun hi => ?_, fun hi => hi⟩
      obtain ⟨v, g1, g2⟩ := h2.get (List.getElem?_eq_getElem (show ds.length - 1 - i < ds.length by omega))
      refine ⟨⟨hi, vs, v, SqL.of h1, g1⟩, fun u H2 y => ?_⟩
      obtain ⟨rfl, y⟩ := y
      have e1 := y vs (SqL.of h1)
      rw [g1] at e1; cases e1
      exact ⟨_, I', by rw [rev_get hi]; exact List.getElem?_eq_getElem (by omega), a, Kp.refl, g2⟩
    · obtain ⟨p1, us, rfl, g1, g2⟩ := r1
      have el : us.length = ds.length := g2.length
      refine ⟨p1, us, rfl, .inr ⟨(show Exx I1 H1 from a1.sub).sqt g1, k _ _ _ _ _ _ q1 a1 k1 fun i I' μ' H' e a _ => ?_⟩⟩
      have h1 := (show Exx I' H' from a.sub).sqt (e.sqt g1)
      have h2 := g2.mono e
      rw [List.length_reverse, el]
      refine ⟨fun hi => ?_, fun hi => hi⟩
      obtain ⟨v, g1, g2⟩ := h2.get (List.getElem?_eq_getElem (show ds.length - 1 - i < ds.length by omega))
      refine ⟨⟨hi, us, v, h1, g1⟩, fun u H2 y => ?_⟩
      obtain ⟨rfl, y⟩ := y
      have e1 := y us h1
      rw [g1] at e1; cases e1
      exact ⟨_, I', by rw [rev_get hi]; exact List.getElem?_eq_getElem (by omega), a, Kp.refl, g2⟩⟩

/-! ### list comprehensions -/
theorem ts_nil [Jx] : PTs2 X [] tYes (fun _ μ T _ => T μ) := ⟨pts_nil, fun ρ μ T F q I σ H hA hS Q g1 g2 => g1 μ I H q hA Kp.refl⟩
def dYes : TT2 := fun _ μ T _ => T μ
theorem w_yes (h : T μ) : dYes ρ μ T F := h
theorem ts_none [Jx] : PTs2 X [] tYes dYes := ts_nil
theorem ts_one [Jx] (h : PT2 X c tt tt2) : PTs2 X [c] tt tt2 := ⟨pts_one h.pt, h.re⟩
def wipe2 (ρ : Env2) : List Nat → Env2
  | [] => ρ
  | v :: vs => (wipe2 ρ vs).set v none
theorem Slots.wipe {I : Hp} {σ : L2.St} (h : Slots K I ρ σ) : ∀ vs : List Nat, Slots K I (wipe2 ρ vs) (L2.wipe σ vs)
  | [] => h
  | v :: vs => by
    have h' := Slots.wipe h vs
    unfold wipe2 L2.wipe
    refine ⟨by rw [List.length_set, List.length_set]; exact h'.1, fun i d e => ?_⟩
    by_cases hi : v = i
    · subst hi
      by_cases hl : v < (wipe2 ρ vs).length
      · rw [List.getElem?_set_self hl] at e; cases e
      · rw [List.getElem?_eq_none_iff.mpr (by rw [List.length_set]; omega)] at e; cases e
    · rw [List.getElem?_set_ne hi] at e ⊢
      exact h'.2 i d e
theorem wipe_get_mem {σ : L2.St} {i : Nat} : ∀ {vs : List Nat}, i ∈ vs → i < σ.length → (L2.wipe σ vs)[i]? = some none
  | v :: vs, hm, hl => by
    unfold L2.wipe
    by_cases hi : v = i
    · subst hi; rw [List.getElem?_set_self (by rw [wipe_length]; exact hl)]
    · rw [List.getElem?_set_ne hi]
      exact wipe_get_mem (by simpa [Ne.symm hi] using hm) hl
  | [], hm, _ => by cases hm
theorem wipe_get_out {σ : L2.St} {i : Nat} : ∀ {vs : List Nat}, i ∉ vs → (L2.wipe σ vs)[i]? = σ[i]?
  | [], _ => rfl
  | v :: vs, hm => by
    unfold L2.wipe
    rw [List.mem_cons, not_or] at hm
    rw [List.getElem?_set_ne (Ne.symm hm.1)]
    exact wipe_get_out hm.2
theorem wipe_same {σ σ2 : L2.St} {vs js : List Nat} (hj : ∀ j ∈ js, j ∈ vs) (l : σ2.length = (L2.wipe σ vs).length) (n : ∀ i, i ∉ js → σ2[i]? = (L2.wipe σ vs)[i]?) : L2.wipe σ2 vs = L2.wipe σ vs := by
  apply List.ext_getElem?
  intro i
  rw [wipe_length] at l
  by_cases hi : i ∈ vs
  · by_cases hl : i < σ.length
    · rw [wipe_get_mem hi hl, wipe_get_mem hi (by rw [l]; exact hl)]
    · rw [List.getElem?_eq_none_iff.mpr (by rw [wipe_length]; omega), List.getElem?_eq_none_iff.mpr (by rw [wipe_length]; omega)]
  · rw [wipe_get_out hi, n i (fun z => hi (hj i z))]
/-- the turns of a comprehension: items left, made so far -/
def dLcs (G : Mu → Prop) (g : TG2) (tt : TT2) (te : TE2) (ρ : Env2) (Q : DK) : List D → List D → Mu → Prop
  | [], acc, μ => G μ ∧ ∀ p, μ p = none → Q (.adr p) (mup μ p (.lst acc))
  | x :: xs, acc, μ => G μ ∧ g x ρ μ fun ρ2 μ2 => tt ρ2 μ2 (fun μ3 => te ρ2 μ3 fun d μ4 => acc.length < sizeLine ∧ dLcs G g tt te ρ Q xs (acc ++ [d]) μ4) (fun μ3 => dLcs G g tt te ρ Q xs acc μ3)
def dLc (wi : TI2) (g : TG2) (tt : TT2) (te : TE2) (vs : List Nat) : TE2 := fun ρ μ Q => wi ρ μ fun xs G μ1 => dLcs G g tt te (wipe2 ρ vs) Q xs [] μ1
theorem w_lc {wi : TI2} {g : TG2} {vs : List Nat} (h : wi ρ μ fun xs G μ1 => dLcs G g tt2 te2 (wipe2 ρ vs) Q xs [] μ1) : dLc wi g tt2 te2 vs ρ μ Q := h
theorem w_lcs0 {G : Mu → Prop} {g : TG2} {acc : List D} (h : G μ) (q : ∀ p, μ p = none → Q (.adr p) (mup μ p (.lst acc))) : dLcs G g tt2 te2 ρ Q [] acc μ := ⟨h, q⟩
def dLcK (G : Mu → Prop) (g : TG2) (tt : TT2) (te : TE2) (ρ : Env2) (Q : DK) (xs acc : List D) : DK := fun d μ4 => acc.length < sizeLine ∧ dLcs G g tt te ρ Q xs (acc ++ [d]) μ4
theorem w_lcs {G : Mu → Prop} {g : TG2} {acc xs : List D} {x : D} (h : G μ) (q : g x ρ μ fun ρ2 μ2 => tt2 ρ2 μ2 (fun μ3 => te2 ρ2 μ3 (dLcK G g tt2 te2 ρ Q xs acc)) (fun μ3 => dLcs G g tt2 te2 ρ Q xs acc μ3)) : dLcs G g tt2 te2 ρ Q (x :: xs) acc μ := ⟨h, q⟩
theorem w_lcK {G : Mu → Prop} {g : TG2} {acc xs : List D} {d : D} (z : acc.length < sizeLine) (q : dLcs G g tt2 te2 ρ Q xs (acc ++ [d]) μ) : dLcK G g tt2 te2 ρ Q xs acc d μ := ⟨z, q⟩
theorem Kp.foreign {I0 I H0 H : Hp} {μ0 μ1 : Mu} {Dl : Addr} {o : HO} (k : Kp I0 μ0 H0 I μ1 H) (h : H0 Dl = none) : Kp I0 μ0 H0 I μ1 (upd H Dl o) := ⟨k.ex, fun b u e h1 h2 => by
  obtain ⟨x, y, z⟩ := k.fr b u e h1 h2
  exact ⟨by rw [upd_ne (ne_of_none e h)]; exact x, y, z⟩⟩
theorem At0.foreign {I H : Hp} {Dl : Addr} {o : HO} (a : At0 K μ I H) (hI : I Dl = none) (hM : μ Dl = none) : At0 K μ I (upd H Dl o) := ⟨fun b u e => by
  rw [upd_ne (ne_of_none e hI)]; exact a.sub b u e, fun b m e => by
  obtain ⟨h1, u, h2, h3⟩ := a.own b m e
  have hb : b ≠ Dl := fun z => by rw [z, hM] at e; cases e
  exact ⟨h1, u, by rw [upd_ne hb]; exact h2, h3⟩⟩
theorem re_lc [Jx] {wi : TI} {wi2 : TI2} {g : TG} {g2 : TG2} {js vs : List Nat} (hi : RI K wi wi2) (hg : RG K g g2) (ho : OnlyG g js) (ht : RT K tt tt2) (he : RE K te te2) (hj : ∀ j ∈ js, j ∈ vs) : RE K (tLc wi g tt te vs) (dLc wi2 g2 tt2 te2 vs) := fun ρ μ Q2 q I σ H hA hS Q gg => by
  refine hi ρ μ _ q I σ H hA hS _ fun J xs G μ1 I1 H1 q1 a1 k1 hJ => ?_
  intro Dl hD
  have hsW : ∀ {I' : Hp}, Exx I1 I' → Slots K I' (wipe2 ρ vs) (L2.wipe σ vs) := fun e => (hS.mono (k1.ex.trans e)).wipe vs
  refine ⟨fun i m H' => m = xs.length - i ∧ i ≤ xs.length ∧ ∃ acc ws μ' I', dLcs G g2 tt2 te2 (wipe2 ρ vs) Q2 (xs.drop i) acc μ' ∧ At K μ' I' H' ∧ H' Dl = some (.lst ws) ∧ I' Dl = none ∧ μ' Dl = none ∧ RpA K I' acc ws ∧ Kp I1 μ1 H1 I' μ' H',
    ⟨xs.length, by simp, Nat.zero_le _, [], [], μ1, I1, by simpa using q1, (a1.toAt0.foreign (a1.noI hD) (a1.noM hD)).up a1 (Kp.refl.foreign hD), upd_same, a1.noI hD, a1.noM hD, rfl, Kp.refl.foreign hD⟩, ?_⟩
  rintro i m H' ⟨rfl, hle, acc, ws, μ', I', w, a', hDl, hDI, hDM, rr, k'⟩
  by_cases hlt : i < xs.length
  · have hd : xs.drop i = xs[i] :: xs.drop (i + 1) := by rw [List.drop_eq_getElem_cons hlt]
    rw [hd] at w
    obtain ⟨hG, w⟩ := w
    obtain ⟨⟨go, yl⟩, _⟩ := (fun z => ⟨z.1 hlt, z.2⟩ : _ → _ ∧ _) (hJ i I' μ' H' k'.ex a' hG)
    refine .inr ⟨go, fun H2 => ∃ acc ws μ' I', dLcs G g2 tt2 te2 (wipe2 ρ vs) Q2 (xs.drop (i + 1)) acc μ' ∧ At K μ' I' H2 ∧ H2 Dl = some (.lst ws) ∧ I' Dl = none ∧ μ' Dl = none ∧ RpA K I' acc ws ∧ Kp I1 μ1 H1 I' μ' H2, fun H2 n => ⟨xs.length - (i + 1), by omega, rfl, hlt, n⟩, fun v H2 y => ?_⟩
    obtain ⟨d, I2, e2, a2, k2, r2⟩ := yl v H2 y
    rw [List.getElem?_eq_getElem hlt] at e2
    cases e2
    have kk := k'.trans k2
    obtain ⟨f1, f2, f3⟩ := k2.fr Dl _ hDl hDI hDM
    refine ho v _ H2 _ _ (fun σ3 H3 l3 n3 z => ⟨wipe_same hj l3 n3, z⟩) (hg _ _ μ' _ w I2 (L2.wipe σ vs) H2 v a2 (hsW kk.ex) r2 _ fun ρ3 μ3 σ3 I3 H3 q3 a3 s3 k3 => ?_)
    obtain ⟨g1, g2', g3⟩ := k3.fr Dl _ f1 f2 f3
    refine ht ρ3 μ3 _ _ q3 I3 σ3 H3 a3 s3 _ (fun μ4 I4 H4 q4 a4 k4 => ?_) (fun μ4 I4 H4 q4 a4 k4 => ?_)
    · rw [if_pos rfl]
      obtain ⟨p1, p2, p3⟩ := k4.fr Dl _ g1 g2' g3
      refine he ρ3 μ4 _ q4 I4 σ3 H4 a4 (s3.mono k4.ex) _ fun d μ5 u I5 H5 q5 a5 k5 r5 => ?_
      obtain ⟨o1, o2, o3⟩ := k5.fr Dl _ p1 p2 p3
      obtain ⟨z, q5⟩ := q5
      have kx := ((k2.trans k3).trans k4).trans k5
      refine ⟨ws, o1, by rw [rr.length]; exact z, acc ++ [d], ws ++ [u], μ5, I5, q5, (a5.toAt0.foreign o2 o3).up a1 ((k'.trans kx).foreign hD), upd_same, o2, o3, (rr.mono kx.ex).append (RpA.one r5), (k'.trans kx).foreign hD⟩
    · rw [if_neg Bool.false_ne_true]
      obtain ⟨p1, p2, p3⟩ := k4.fr Dl _ g1 g2' g3
      have kx := (k2.trans k3).trans k4
      exact ⟨acc, ws, μ4, I4, q4, a4, p1, p2, p3, rr.mono kx.ex, k'.trans kx⟩
  · have e : i = xs.length := by omega
    subst e
    rw [List.drop_length] at w
    refine .inl ⟨(hJ _ I' μ' H' k'.ex a' w.1).2 (Nat.le_refl _), ?_⟩
    have kf : Kp I μ H I' (mup μ' Dl (.lst acc)) H' := ?kf
    refine gg _ (mup μ' Dl (.lst acc)) _ I' H' (w.2 Dl hDM) (At0.up ⟨a'.sub, fun b m e => ?_⟩ hA kf) kf rfl
    · by_cases hb : b = Dl
      · subst hb; rw [mup_same] at e; cases e; exact ⟨hDI, _, hDl, ws, rfl, rr⟩
      · rw [mup_ne hb] at e; exact a'.own b m e
    case kf =>
      have kz := k1.trans k'
      refine ⟨kz.ex, fun b u e h1 h2 => ?_⟩
      obtain ⟨x, y, z⟩ := kz.fr b u e h1 h2
      obtain ⟨x1, _, _⟩ := k1.fr b u e h1 h2
      have hb : b ≠ Dl := fun z => by rw [z, hD] at x1; cases x1
      exact ⟨x, y, by rw [mup_ne hb]; exact z⟩
/-- the readings that a block has at each of its starts -/
def teOf [Jx] (K : PySem.W.Frag) (t : TE2) : TE := fun σ H Q => ∃ ρ μ I Q2, t ρ μ Q2 ∧ At K μ I H ∧ Slots K I ρ σ ∧ Go K I μ H Q2 Q
def ttOf [Jx] (K : PySem.W.Frag) (t : TT2) : TT := fun σ H Q => ∃ ρ μ I T F, t ρ μ T F ∧ At K μ I H ∧ Slots K I ρ σ ∧ GoU K I μ H T (Q true) ∧ GoU K I μ H F (Q false)
def gOf [Jx] (K : PySem.W.Frag) (g : TG2) (js : List Nat) : TG := fun v σ H Q => ∃ d ρ μ I Q2, g d ρ μ Q2 ∧ At K μ I H ∧ Slots K I ρ σ ∧ Rp K I d v ∧
  ∀ ρ' μ' σ' I' H', σ'.length = σ.length → (∀ i, i ∉ js → σ'[i]? = σ[i]?) → Q2 ρ' μ' → At K μ' I' H' → Slots K I' ρ' σ' → Kp I μ H I' μ' H' → Q σ' H'
theorem pe_can [Jx] (h : ∃ te, PE2 X e te te2) : PE X e (teOf X.K te2) := by
  obtain ⟨te, h⟩ := h
  exact ⟨fun pins s σ H Q I q => by
    obtain ⟨ρ, μ, I2, Q2, q1, q2, q3, q4⟩ := q
    exact h.pe.run pins s σ H Q I (h.re ρ μ Q2 q1 I2 σ H q2 q3 Q q4)⟩
theorem re_can [Jx] : RE K (teOf K te2) te2 := fun ρ μ Q2 q I σ H hA hS Q g => ⟨ρ, μ, I, Q2, q, hA, hS, g⟩
theorem pts_can [Jx] {ifs : List Expr} (h : ∃ tt, PTs2 X ifs tt tt2) : PTs X ifs (ttOf X.K tt2) := by
  obtain ⟨te, h⟩ := h
  exact ⟨fun pins s σ H Q I q => by
    obtain ⟨ρ, μ, I2, T, F, q1, q2, q3, q4, q5⟩ := q
    exact h.pt.run pins s σ H Q I (h.re ρ μ T F q1 I2 σ H q2 q3 Q q4 q5)⟩
theorem rt_can [Jx] : RT K (ttOf K tt2) tt2 := fun ρ μ T F q I σ H hA hS Q g1 g2 => ⟨ρ, μ, I, T, F, q, hA, hS, g1, g2⟩
theorem pg_can [Jx] {tg : Expr} {g2 : TG2} {js : List Nat} (h : ∃ g, PG2 X tg g g2 js) : PG X tg (gOf X.K g2 js) := by
  obtain ⟨g, h⟩ := h
  exact ⟨fun pins s σ H v u Q I r q => by
    obtain ⟨d, ρ, μ, I2, Q2, q1, q2, q3, q4, q5⟩ := q
    refine h.pg.run pins s σ H v u Q I r (h.only v σ H _ _ (fun σ2 H2 l n z => ?_) (h.re d ρ μ Q2 q1 I2 σ H v q2 q3 q4 (fun σ' H' => ∃ ρ' μ' I', Q2 ρ' μ' ∧ At X.K μ' I' H' ∧ Slots X.K I' ρ' σ' ∧ Kp I2 μ H I' μ' H') (fun ρ' μ' σ' I' H' a b c d => ⟨ρ', μ', I', a, b, c, d⟩)))
    obtain ⟨ρ', μ', I', a, b, c, d⟩ := z
    exact q5 ρ' μ' σ2 I' H2 l n a b c d⟩
theorem rg_can [Jx] {g2 : TG2} {js : List Nat} : RG K (gOf K g2 js) g2 := fun d ρ μ Q2 q I σ H v hA hS r Q g => ⟨d, ρ, μ, I, Q2, q, hA, hS, r, fun ρ' μ' σ' I' H' _ _ a b c d => g ρ' μ' σ' I' H' a b c d⟩
theorem only_can [Jx] {g2 : TG2} {js : List Nat} : OnlyG (gOf K g2 js) js := fun v σ H Q Q' h q => by
  obtain ⟨d, ρ, μ, I2, Q2, q1, q2, q3, q4, q5⟩ := q
  exact ⟨d, ρ, μ, I2, Q2, q1, q2, q3, q4, fun ρ' μ' σ' I' H' l n a b c d => h σ' H' l n (q5 ρ' μ' σ' I' H' l n a b c d)⟩
abbrev Blk (X : Cx) (scope : Scope) (P : Cx → Prop) : Prop := ∀ (s : Shared) (H : Hp) (C : Addr) (cl : List (Str × Addr)) (fp : List Addr), P (X.blk s H scope (compEnvC scope cl C X.env) fp)
theorem e_lc [Jx] {elt tg iter : Expr} {ifs : List Expr} {scope : Scope} {own : List (Str × Nat)} {wi : TI} {wi2 : TI2} {g2 : TG2} {js : List Nat} (hc : X.calm = true) (hN : X.N.Nodup) (hi : PI2 X tg iter wi wi2) (ok : BlkOk X.N X.env.scope scope own)
    (hg : Blk X scope fun X => ∃ g, PG2 X tg g g2 js) (ht : Blk X scope fun X => ∃ tt, PTs2 X ifs tt tt2) (he : Blk X scope fun X => ∃ te, PE2 X elt te te2) (hj : ∀ j ∈ js, j ∈ own.map (·.2) := by decide) (hs : ∀ x, foldedSetIterable iter X.env x = pure x := by intro _; rfl) :
    PE2 X (.ListComp elt [⟨tg, iter, ifs, 0⟩] scope pos) (tLc wi (gOf X.K g2 js) (ttOf X.K tt2) (teOf X.K te2) (own.map (·.2))) (dLc wi2 g2 tt2 te2 (own.map (·.2))) :=
  ⟨pe_lc hc hN hi.pi ok (fun s H C cl fp => pg_can (hg s H C cl fp)) (fun s H C cl fp => pts_can (ht s H C cl fp)) (fun s H C cl fp => pe_can (he s H C cl fp)) hs,
   re_lc hi.re rg_can only_can rt_can re_can hj⟩
theorem ps_lc [Jx] {i : Nat} {y : Str} {py spos : Pos} {elt tg iter : Expr} {ifs : List Expr} {scope : Scope} {own : List (Str × Nat)} {wi : TI} {wi2 : TI2} {g2 : TG2} {js : List Nat} (hc : X.calm = true) (hN : X.N.Nodup) (hy : X.N[i]? = some y) (hyl : X.env.scope.names.lookup y = some .local)
    (hsw : swapsWith (.ListComp elt [⟨tg, iter, ifs, 0⟩] scope pos) (some (.Name y py)) spos.line X.env = pure true) (hi : PI2 X tg iter wi wi2) (ok : BlkOk X.N X.env.scope scope own)
    (hg : Blk X scope fun X => ∃ g, PG2 X tg g g2 js) (ht : Blk X scope fun X => ∃ tt, PTs2 X ifs tt tt2) (he : Blk X scope fun X => ∃ te, PE2 X elt te te2) (hs : ∀ x, foldedSetIterable iter X.env x = pure x := by intro _; rfl) :
    PS X (.Assign [.Name y py] (.ListComp elt [⟨tg, iter, ifs, 0⟩] scope pos) spos) (tAsg (tLc wi (gOf X.K g2 js) (ttOf X.K tt2) (teOf X.K te2) (own.map (·.2))) (gName i)) :=
  ps_setLc hc hN hy hyl hsw hi.pi ok (fun s H C cl fp => pg_can (hg s H C cl fp)) (fun s H C cl fp => pts_can (ht s H C cl fp)) (fun s H C cl fp => pe_can (he s H C cl fp)) hs
theorem s_setLc [Jx] {i : Nat} {y : Str} {py spos : Pos} {elt tg iter : Expr} {ifs : List Expr} {scope : Scope} {own : List (Str × Nat)} {wi : TI} {wi2 : TI2} {g2 : TG2} {js : List Nat} (hc : X.calm = true) (hN : X.N.Nodup) (hy : X.N[i]? = some y) (hyl : X.env.scope.names.lookup y = some .local)
    (hsw : swapsWith (.ListComp elt [⟨tg, iter, ifs, 0⟩] scope pos) (some (.Name y py)) spos.line X.env = pure true) (hi : PI2 X tg iter wi wi2) (ok : BlkOk X.N X.env.scope scope own)
    (hg : Blk X scope fun X => ∃ g, PG2 X tg g g2 js) (ht : Blk X scope fun X => ∃ tt, PTs2 X ifs tt tt2) (he : Blk X scope fun X => ∃ te, PE2 X elt te te2) (hj : ∀ j ∈ js, j ∈ own.map (·.2) := by decide) (hs : ∀ x, foldedSetIterable iter X.env x = pure x := by intro _; rfl) :
    PS2 X (.Assign [.Name y py] (.ListComp elt [⟨tg, iter, ifs, 0⟩] scope pos) spos) (tAsg (tLc wi (gOf X.K g2 js) (ttOf X.K tt2) (teOf X.K te2) (own.map (·.2))) (gName i)) (dAsg (dLc wi2 g2 tt2 te2 (own.map (·.2))) (gN i)) :=
  ⟨ps_lc hc hN hy hyl hsw hi ok hg ht he hs, re_asg (re_lc hi.re rg_can only_can rt_can re_can hj) (re_gN i)⟩
end

/-! ### defs -/
abbrev XK2 := Addr → List (Str × D) → Mu → Prop
abbrev Sp2 := List D → Mu → DK → XK2 → Prop
def GoX (K : PySem.W.Frag) (I : Hp) (μ : Mu) (H : Hp) (E2 : XK2) (E : XK) : Prop := ∀ C fs μ' I' H' dx hfs, E2 C fs μ' → At0 K μ' I' H' → Kp I μ H I' μ' H' → H' dx = some (.xd hfs) → I' dx = none → RpF K I' fs hfs → E (.ref C) (some dx) H'
def toSp (K : PySem.W.Frag) (sp : Sp2) : Sp := fun vs H Q E => ∃ ds μ I Q2 E2, At0 K μ I H ∧ RpA K I ds vs ∧ sp ds μ Q2 E2 ∧ Go0 K I μ H Q2 Q ∧ GoX K I μ H E2 E
abbrev NoX : XK2 := fun _ _ _ => False
theorem goX_no {K : PySem.W.Frag} {I H : Hp} {μ : Mu} {E : XK} : GoX K I μ H NoX E := fun _ _ _ _ _ _ _ h => h.elim
/-- a def of the module that keeps a promise, and raises nothing -/
structure Df (P : Program) (w : World) (K : PySem.W.Frag) (mg : Str → Option Value) (base : Heap) (x : Str) (k : Nat) (ps : List Str) (sp : Sp2) : Prop where
  of : ∃ f fd, FnOk P w K mg base CX0 k f fd ps (toSp K sp) ∧ mg x = some (.ref f) ∧ PySem.W.keepIn K (.ref f) = true ∧ Binds K fd ps [] ∧ ∃ oc od osl, K.lookup f = some ⟨oc, od, .func fd, osl⟩
/-- a def as it stands behind the top -/
structure Tx (K : PySem.W.Frag) (mg : Str → Option Value) (x : Str) (st : Stmt) (ps : List Str) : Prop where
  of : ∃ f fd, Fun K x x st f fd ∧ mg x = some (.ref f) ∧ Binds K fd ps []
section
variable {X : Cx} {K : PySem.W.Frag} {a b c e o : Expr} {es rest : List Expr} {ta tb tc te to : TE} {ta2 tb2 tc2 te2 to2 : TE2} {pos apos cpos p tpos : Pos} {tl : TA} {tl2 : TA2} {x : Str}
variable {ρ : Env2} {μ : Mu} {Q : DK} {k j : Nat} {ps : List Str} {sp : Sp2}
def dCall (sp : Sp2) (t : TA2) : TE2 := fun ρ μ Q => t ρ μ fun ds μ1 => sp ds μ1 Q NoX
theorem w_call (h : tl2 ρ μ fun ds μ1 => sp ds μ1 Q NoX) : dCall sp tl2 ρ μ Q := h
theorem re_call [Jx] {E : XK} (h : RA K tl tl2) : RE K (tCall (toSp K sp) [] E tl) (dCall sp tl2) := fun ρ μ Q2 q I σ H hA hS Q g =>
  h ρ μ _ q I σ H hA hS _ fun ds μ1 vs I1 H1 q1 a1 k1 r1 => by
    show toSp K sp (vs ++ []) H1 Q E
    rw [List.append_nil]
    exact ⟨ds, μ1, I1, Q2, NoX, a1.toAt0, r1, q1, (g.past k1).low a1, goX_no⟩
/-- f(..) -/
theorem e_call [Jx] (F : Df X.prog X.w X.K X.mg X.base x j ps sp) (hr : Room k X.A) (hg : Gl X x) (ha : PA2 X (e :: es) tl tl2) (hjk : j ≤ k := by decide) (hdb : (x == ("__debug__" : Str)) = false := by decide) (he : starEach (e :: es) X.env = (false, eval e X.env) :: starEach es X.env := by rfl) (hpl : (backTo pos (starEach es X.env)).any (·.1) = false := by rfl) :
    PE2 X (.Call (.Name x p) (e :: es) [] pos) (tCall (toSp X.K sp) [] E0 tl) (dCall sp tl2) := by
  obtain ⟨f, fd, F, hm, hk, hb, _⟩ := F.of
  exact ⟨pe_call F (hr.mono hjk) hg hm hk hb .nil pass0 ha.pa hdb he hpl, re_call ha.re⟩
theorem e_call0 [Jx] (F : Df X.prog X.w X.K X.mg X.base x j ps sp) (hr : Room k X.A) (hg : Gl X x) (hjk : j ≤ k := by decide) (hdb : (x == ("__debug__" : Str)) = false := by decide) :
    PE2 X (.Call (.Name x p) [] [] pos) (tCall (toSp X.K sp) [] E0 tNil) (dCall sp dNil) := by
  obtain ⟨f, fd, F, hm, hk, hb, _⟩ := F.of
  exact ⟨pe_call0 F (hr.mono hjk) hg hm hk hb .nil pass0 hdb, re_call (a_nil (X := X)).re⟩
def start2 (N : List Str) (ds : List D) : Env2 := ds.map some ++ List.replicate (N.length - ds.length) none
theorem RpA.slots {I : Hp} : ∀ {ds : List D} {vs : List V}, RpA K I ds vs → Slots K I (ds.map some) (vs.map some)
  | [], _, r => by cases (show _ = _ from r); exact ⟨rfl, fun i d e => by simp at e⟩
  | d :: ds, _, r => by
    obtain ⟨v, w, rfl, r1, r2⟩ := r
    obtain ⟨l, h⟩ := RpA.slots r2
    refine ⟨by simpa using l, fun i d' e => ?_⟩
    cases i with
    | zero => simp at e; subst e; exact ⟨v, by simp, r1⟩
    | succ i => simpa using h i d' (by simpa using e)
theorem slots_start {I : Hp} {N : List Str} {ds : List D} {vs : List V} (r : RpA K I ds vs) : Slots K I (start2 N ds) (L2.start N vs) := by
  obtain ⟨l, h⟩ := r.slots
  unfold start2 L2.start
  refine ⟨by rw [List.length_append, List.length_append, l, List.length_replicate, List.length_replicate, r.length], fun i d e => ?_⟩
  by_cases hi : i < (ds.map some).length
  · rw [List.getElem?_append_left hi] at e
    rw [List.getElem?_append_left (by rw [← l]; exact hi)]
    exact h i d e
  · rw [List.getElem?_append_right (by omega)] at e
    rw [List.getElem?_replicate] at e
    split at e <;> cases e
/-- THE RULE for a def -/
theorem Tx.ok {P : Program} {w : World} {mg : Str → Option Value} {base : Heap} {st : Stmt} {N : List Str} (T : Tx K mg x st ps) (S : FnScope N ps (defScope st)) (len : ∀ ds μ Q E, sp ds μ Q E → ds.length = ps.length)
    (hb : ∀ [Jx] (f : Addr) (cdv : Value) (A : Around) (outer : List Env) (s : Shared) (H : Hp) (E : XK), Room k (A.deeper (envOfC x (defScope st) s.heap.objs.size f cdv)) →
      ∃ ts t, PSs2 (cxOf CX0 P w K mg base N x (defScope st) f cdv A outer s H E).nox (defBody st) ts t ∧ ∀ ds μ Q E2, sp ds μ Q E2 → t { nx := fun _ μ' => RtC Q .non μ', rt := RtC Q } (start2 N ds) μ) : Df P w K mg base x (k + 1) ps sp := by
  obtain ⟨f, fd, F, hm, hbd⟩ := T.of
  refine ⟨f, fd, F.ok S (fun vs H Q E h => ?_) (fun cdv A outer s H vs Q E hr h => ?_), hm, F.kp, hbd, ?_⟩
  · obtain ⟨ds, μ, I, Q2, E2, _, r, hsp, _⟩ := h
    rw [r.length]; exact len _ _ _ _ hsp
  · obtain ⟨ds, μ, I, Q2, E2, hA, r, hsp, g, gx⟩ := h
    letI := Jx.triv
    obtain ⟨ts, t, ht, hq⟩ := hb f cdv A outer s H E hr
    refine ⟨ts, ht.ps, ht.re _ _ μ (hq ds μ Q2 E2 hsp) I _ H hA.triv (slots_start r) _ (@GoS.mk Jx.triv _ _ _ _ _ _ ?_ ?_ (fun _ _ _ _ _ h => h.elim) (fun _ _ _ _ _ h => h.elim))⟩
    · rintro ρ' μ' σ' I' H' ⟨d', μ2, sh, q⟩ a' s' k'
      obtain ⟨I2, a2, k2, r2⟩ := @sh Jx.triv K I' H' .non a' rfl
      exact g d' μ2 _ I2 H' q (@At.toAt0 Jx.triv _ _ _ _ a2) (k'.trans k2) r2
    · rintro d μ' v I' H' ⟨d', μ2, sh, q⟩ a' k' r'
      obtain ⟨I2, a2, k2, r2⟩ := @sh Jx.triv K I' H' v a' r'
      exact g d' μ2 _ I2 H' q (@At.toAt0 Jx.triv _ _ _ _ a2) (k'.trans k2) r2
  · obtain ⟨oc, od, kV, doc, pm, an, cdv, ct, osl, rfl, lk, _⟩ := F.ex
    exact ⟨oc, od, osl, lk⟩
theorem Df.imp {P : Program} {w : World} {mg : Str → Option Value} {base : Heap} {sp' : Sp2} (F : Df P w K mg base x k ps sp) (h : ∀ ds μ Q E, sp' ds μ Q E → sp ds μ Q E) : Df P w K mg base x k ps sp' := by
  obtain ⟨f, fd, F, hm, hk, hb⟩ := F.of
  exact ⟨f, fd, F.imp fun vs H Q E q => by
    obtain ⟨ds, μ, I, Q2, E2, a, r, s, g⟩ := q
    exact ⟨ds, μ, I, Q2, E2, a, r, h _ _ _ _ s, g⟩, hm, hk, hb⟩
/-- the law's own promise -/
def spLaw : Sp2 := fun ds μ Q _ => ∃ ns : List Int, ds = [.scr ns] ∧ ns.length ≤ 63 ∧ ∀ μ', Q (.bl true) μ'
theorem law_in {K : PySem.W.Frag} {H : Hp} {a : Addr} {ns : List Int} (hl : ns.length ≤ 63) (hS : SqL K H a (ns.map V.int)) : toSp K spLaw [.ref a] H (fun v _ => v = .bl true) fun _ _ _ => False :=
  ⟨[.scr ns], fun _ => none, H, fun d _ => d = .bl true, NoX, ⟨fun _ _ h => h, fun _ _ h => nomatch h⟩, ⟨_, [], rfl, ⟨a, rfl, hS⟩, rfl⟩, ⟨ns, rfl, hl, fun _ => rfl⟩, fun d μ' v I' H' q _ _ r => by subst q; exact r, goX_no⟩
end
end Y

set_option Elab.async false
set_option linter.all false
set_option maxRecDepth 100000
set_option maxHeartbeats 4000000
namespace Y
open PySem PySem.Spec PyProof.Rows L2
/-- a constant of the module -/
def Gc (mg : Str → Option Value) (x : Str) (v : V) : Prop := ∃ u, mg x = some u ∧ RelV v u
def V.d : V → D
  | .int i => .int i | .str x => .str x | .bl b => .bl b | .ty n => .ty n | .ref a => .adr a | _ => .non
section
variable {X : Cx} {K : PySem.W.Frag} {a b c e o : Expr} {es rest : List Expr} {ta tb tc te to : TE} {ta2 tb2 tc2 te2 to2 : TE2} {pos apos cpos p tpos : Pos} {tt tu : TT} {tt2 tu2 : TT2} {tl : TA} {tl2 : TA2} {x : Str}
variable {ρ : Env2} {μ : Mu} {Q : DK} {T F : Mu → Prop} {st : Stmt} {sts sts' : List Stmt} {ts tz : TS} {ts2 tz2 : TS2} {D2 : Ends2}
theorem e_globS [Jx] {z : Str} (G : Gc X.mg x (.str z)) (hg : Gl X x) (hd : (x == ("__debug__" : Str)) = false := by decide) : PE2 X (.Name x pos) (tC (.str z)) (dC (.str z)) := by
  obtain ⟨u, hm, r⟩ := G
  exact e_cst (pe_glob hg hm r hd) fun _ => rfl
theorem e_globI [Jx] {z : Int} (G : Gc X.mg x (.int z)) (hg : Gl X x) (hd : (x == ("__debug__" : Str)) = false := by decide) : PE2 X (.Name x pos) (tC (.int z)) (dC (.int z)) := by
  obtain ⟨u, hm, r⟩ := G
  exact e_cst (pe_glob hg hm r hd) fun _ => rfl
/-- a built-in type as a value -/
theorem e_bty [Jx] {n : String} (hg : Gl X x) (hm : X.mg x = none) (hv : bootBuiltins x = some (.type n)) (hn : x ≠ "__name__" := by decide) (hd : (x == ("__debug__" : Str)) = false := by decide) : PE2 X (.Name x pos) (tC (.ty n)) (dC (.ty n)) := e_cst (pe_bltn hg hm hv rfl hn hd) fun _ => rfl
/-- products of all kinds -/
abbrev rvMulA : R2 := rOr rvMul (rOr rvMulW rRep)
def dMulA : DR2 := fun x y μ Q => dMul x y μ Q ∨ dMulW x y μ Q ∨ dRep x y μ Q
theorem rr_mul [Jx] : RR K rvMul dMul := rr_I
theorem rr_mulW [Jx] : RR K rvMulW dMulW := rr_I
theorem rr_mulA [Jx] : RR K rvMulA dMulA := fun x y μ Q2 q I H vx vy hA rx ry Q k => by
  rcases q with q | q | q
  · exact .inl (rr_mul x y μ Q2 q I H vx vy hA rx ry Q k)
  · exact .inr (.inl (rr_mulW x y μ Q2 q I H vx vy hA rx ry Q k))
  · exact .inr (.inr (rr_rep x y μ Q2 q I H vx vy hA rx ry Q k))
theorem e_mulA [Jx] (ha : PE2 X a ta ta2) (hb : PE2 X b tb tb2) : PE2 X (.BinOp a .Mult b pos) (tOp rvMulA ta tb) (dOp dMulA ta2 tb2) := e_op (opOr op_mul (opOr op_mulW op_rep)) rr_mulA ha hb
theorem w_mulI {i j : Int} (c : CMul i j) (q : Q (.int (i * j)) μ) : dMulA (.int i) (.int j) μ Q := .inl ⟨i, j, rfl, rfl, c, q⟩
theorem w_mulIW {i j : Int} (c : CMulW i j) (q : Q (.int (i * j)) μ) : dMulA (.int i) (.int j) μ Q := .inr (.inl ⟨i, j, rfl, rfl, c, q⟩)
theorem w_mulL {x : D} {xs : List D} {k : Int} (e1 : asL μ x = some xs) (h1 : -(2 ^ 63) ≤ k) (h2 : k < 2 ^ 63) (q : dNewL (List.replicate k.toNat xs).flatten μ Q) : dMulA x (.int k) μ Q := .inr (.inr ⟨xs, k, e1, rfl, h1, h2, q⟩)
/-- what is made stays, if it is a list -/
def dFzLK (Q : DK) : DK := fun d μ1 => Q d μ1 ∨ ∃ p ds, d = .adr p ∧ μ1 p = some (.lst ds) ∧ Q (.lst ds) (mdel μ1 p)
def dFzL (t : TE2) : TE2 := fun ρ μ Q => t ρ μ (dFzLK Q)
theorem w_fzL (h : te2 ρ μ (dFzLK Q)) : dFzL te2 ρ μ Q := h
theorem w_fzL0 {d : D} (h : Q d μ) : dFzLK Q d μ := .inl h
theorem w_fzL1 {p : Addr} {ds : List D} (h : μ p = none) (q : Q (.lst ds) μ) : dFzLK Q (.adr p) (mup μ p (.lst ds)) := .inr ⟨p, ds, rfl, mup_same, by rw [mdel_mup h]; exact q⟩
theorem re_fzL [Jx] (h : RE K te te2) : RE K te (dFzL te2) := fun ρ μ Q2 q I σ H hA hS Q g => h ρ μ _ q I σ H hA hS _ fun d μ1 v I1 H1 q1 a1 k1 r1 => by
  rcases q1 with q1 | ⟨p, ds, rfl, hp, q1⟩
  · exact g _ _ _ _ _ q1 a1 k1 r1
  · obtain ⟨hI, ho, h1, vs, rfl, h2⟩ := a1.own p _ hp
    exact g _ _ _ _ _ q1 (a1.frz hp h1) (k1.trans (Kp.frz hp hI)) ⟨p, vs, r1, upd_same, h2.mono (Exx.new hI)⟩
theorem e_fzL [Jx] (h : PE2 X e te te2) : PE2 X e te (dFzL te2) := ⟨h.pe, re_fzL h.re⟩
/-- a comprehension at a name: kept as it is -/
theorem s_setLcF [Jx] {i : Nat} {y : Str} {py spos : Pos} {elt tg iter : Expr} {ifs : List Expr} {scope : Scope} {own : List (Str × Nat)} {wi : TI} {wi2 : TI2} {g2 : TG2} {js : List Nat} (hc : X.calm = true) (hN : X.N.Nodup) (hy : X.N[i]? = some y) (hyl : X.env.scope.names.lookup y = some .local)
    (hsw : swapsWith (.ListComp elt [⟨tg, iter, ifs, 0⟩] scope pos) (some (.Name y py)) spos.line X.env = pure true) (hi : PI2 X tg iter wi wi2) (ok : BlkOk X.N X.env.scope scope own)
    (hg : Blk X scope fun X => ∃ g, PG2 X tg g g2 js) (ht : Blk X scope fun X => ∃ tt, PTs2 X ifs tt tt2) (he : Blk X scope fun X => ∃ te, PE2 X elt te te2) (hj : ∀ j ∈ js, j ∈ own.map (·.2) := by decide) (hs : ∀ x, foldedSetIterable iter X.env x = pure x := by intro _; rfl) :
    PS2 X (.Assign [.Name y py] (.ListComp elt [⟨tg, iter, ifs, 0⟩] scope pos) spos) (tAsg (tLc wi (gOf X.K g2 js) (ttOf X.K tt2) (teOf X.K te2) (own.map (·.2))) (gName i)) (dAsg (dFzL (dLc wi2 g2 tt2 te2 (own.map (·.2)))) (gN i)) :=
  ⟨ps_lc hc hN hy hyl hsw hi ok hg ht he hs, re_asg (re_fzL (re_lc hi.re rg_can only_can rt_can re_can hj)) (re_gN i)⟩
/-- a power of two -/
theorem w_shl1 {n : Nat} (h : n ≤ 1000000) (q : Q (.int ((2 ^ n : Nat) : Int)) μ) : dShl (.int 1) (.int (n : Int)) μ Q := ⟨1, n, rfl, rfl, ⟨by omega, by omega, by decide⟩, by
  have e : (1 : Int) * 2 ^ ((n : Int)).toNat = ((2 ^ n : Nat) : Int) := by simp
  show Q (.int ((1 : Int) * 2 ^ ((n : Int)).toNat)) μ
  rw [e]; exact q⟩
theorem fn_same {P : Program} {w : World} {mg : Str → Option Value} {base : Heap} {k : Nat} {f : Addr} {fd fd' : FuncData} {ps : List Str} {sp : Sp} {oc oc' : Value} {od od' : Option Addr} {osl osl' : Array (Option Value)} (F : FnOk P w K mg base CX0 k f fd ps sp) (h : K.lookup f = some ⟨oc, od, .func fd, osl⟩) (h' : K.lookup f = some ⟨oc', od', .func fd', osl'⟩) : FnOk P w K mg base CX0 k f fd' ps sp := by
  rw [h] at h'
  cases h'
  exact F
end
/-! ### looking up what is owned -/
theorem look_ne {μ : Mu} {a b : Addr} {m : MO} {r : Option MO} (h : b ≠ a) (h' : μ b = r) : mup μ a m b = r := by rw [mup_ne h]; exact h'
theorem ne_new {μ : Mu} {a b : Addr} {m : MO} (h : μ a = none) (h' : μ b = some m) : b ≠ a := fun z => by rw [z, h] at h'; cases h'
theorem ne_new' {μ : Mu} {a b : Addr} {m : MO} (h : μ a = none) (h' : μ b = some m) : a ≠ b := fun z => by rw [← z, h] at h'; cases h'
theorem none_of {μ : Mu} {a b : Addr} {m : MO} (h : mup μ a m b = none) : μ b = none := by
  by_cases e : b = a
  · subst e; rw [mup_same] at h; cases h
  · rw [mup_ne e] at h; exact h
theorem ne_of_mup {μ : Mu} {a b : Addr} {m : MO} (h : mup μ a m b = none) : b ≠ a := fun e => by subst e; rw [mup_same] at h; cases h
theorem asL_adr {μ : Mu} {p : Addr} {ds : List D} (h : μ p = some (.lst ds)) : asL μ (.adr p) = some ds := by simp [asL, h]
theorem asS_adr {μ : Mu} {p : Addr} {ds : List D} (h : μ p = some (.lst ds)) : asS μ (.adr p) = some ds := asL_adr h
theorem tyD_lst {μ : Mu} {p : Addr} {ds : List D} (h : μ p = some (.lst ds)) : tyD μ (.adr p) = some "list" := by simp [tyD, h]
theorem tyD_dk {μ : Mu} {p : Addr} {kvs : List (Key × D)} (h : μ p = some (.dk kvs)) : tyD μ (.adr p) = some "dict" := by simp [tyD, h]
theorem rsv_lst {μ : Mu} {p : Addr} {ds : List D} (h : μ p = some (.lst ds)) : rsv μ (.adr p) = .lst ds := by simp [rsv, h]
theorem sz_le {n : Nat} (h : n ≤ 10000000) : n ≤ sizeLine := Nat.le_trans h (by decide)
theorem sz_lt {n : Nat} (h : n < 10000000) : n < sizeLine := Nat.lt_of_lt_of_le h (by decide)
theorem cmul_l {i j : Int} (h1 : -18446744073709551616 < i) (h2 : i < 18446744073709551616) : CMul i j := .inl ⟨by omega, by omega⟩
theorem cmul_r {i j : Int} (h1 : -18446744073709551616 < j) (h2 : j < 18446744073709551616) : CMul i j := .inr ⟨by omega, by omega⟩
theorem cdiv_small {i j : Int} (h1 : 0 < j) (h2 : j < 1606938044258990275541962092341162602522202993782792835301376) : CDivW i j := wide_div (b := 200) h1 (by omega) (by decide) (by decide)
theorem cpow_small {i j : Int} (h1 : 0 ≤ j) (h2 : j ≤ 1000000) (h3 : i.natAbs < 2 ^ 64) : CPow i j := ⟨h1, h2, h3⟩
theorem atI_ex {α : Type} {xs : List α} {k : Int} (h0 : 0 ≤ k) (h1 : k < xs.length) : ∃ x, atI xs k = some x ∧ x ∈ xs ∧ xs[k.toNat]? = some x := by
  have hk : k.toNat < xs.length := by omega
  have e : k = ((k.toNat : Nat) : Int) := by omega
  refine ⟨xs[k.toNat], ?_, List.getElem_mem _, List.getElem?_eq_getElem hk⟩
  generalize k.toNat = j at hk e
  subst e
  exact atI_nat (List.getElem?_eq_getElem hk)
end Y

set_option Elab.async false
set_option linter.all false
set_option maxRecDepth 100000
set_option maxHeartbeats 4000000
namespace Y
open PySem PySem.Spec PyProof.Rows L2
section
variable {X : Cx} {K : PySem.W.Frag} {a b c e o : Expr} {es rest : List Expr} {ta tb tc te to : TE} {ta2 tb2 tc2 te2 to2 : TE2} {pos apos cpos p tpos : Pos} {tt tu : TT} {tt2 tu2 : TT2} {tl : TA} {tl2 : TA2} {x : Str}
variable {ρ : Env2} {μ : Mu} {Q : DK} {T F : Mu → Prop}
theorem eqv_self {x y : D} (e : x = y) (h : D.shp 64 x = true) : PyData.eqv x.py y.py = true := by
  subst e
  exact SeqAt.eqv_refl _ (shp_py h).1
/-- sorted, of whole numbers or of texts -/
def dSorted : DRC := fun xs μ Q => (∃ (x : D) (ns : List Int), xs = [x] ∧ asL μ x = some (ns.map D.int) ∧ ns.length < 64 ∧ ∀ (ns' : List Int) (p : Addr), ns'.Perm ns → ns'.Pairwise (· ≤ ·) → μ p = none → Q (.adr p) (mup μ p (.lst (ns'.map D.int)))) ∨
  ∃ (x : D) (ns : List Str), xs = [x] ∧ asL μ x = some (ns.map D.str) ∧ ns.length < 64 ∧ ∀ (ns' : List Str) (p : Addr), ns'.Perm ns → sortedS ns' = true → μ p = none → Q (.adr p) (mup μ p (.lst (ns'.map D.str)))
theorem w_sortedI {x : D} (ns : List Int) (h : asL μ x = some (ns.map D.int)) (h2 : ns.length < 64) (q : ∀ (ns' : List Int) (p : Addr), ns'.Perm ns → ns'.Pairwise (· ≤ ·) → μ p = none → Q (.adr p) (mup μ p (.lst (ns'.map D.int)))) : dSorted [x] μ Q := .inl ⟨x, ns, rfl, h, h2, q⟩
theorem w_sortedS {x : D} (ns : List Str) (h : asL μ x = some (ns.map D.str)) (h2 : ns.length < 64) (q : ∀ (ns' : List Str) (p : Addr), ns'.Perm ns → sortedS ns' = true → μ p = none → Q (.adr p) (mup μ p (.lst (ns'.map D.str)))) : dSorted [x] μ Q := .inr ⟨x, ns, rfl, h, h2, q⟩
theorem crOr {f : Value} {r r' : List V → Hp → VK → Prop} (h : CallR X f r) (h' : CallR X f r') : CallR X f (fun xs H Q => r xs H Q ∨ r' xs H Q) := by
  intro pins s σ H xs us Q I rr q
  rcases q with q | q
  · exact h pins s σ H xs us Q I rr q
  · exact h' pins s σ H xs us Q I rr q
abbrev rvSorted (K : PySem.W.Frag) : List V → Hp → VK → Prop := fun xs H Q => rSorted K xs H Q ∨ rSortedS K xs H Q
theorem rc_sorted [Jx] : RC K (rvSorted K) dSorted := fun xs μ Q2 q I H vs hA r Q k => by
  rcases q with ⟨x, ns, rfl, h, h2, q⟩ | ⟨x, ns, rfl, h, h2, q⟩
  · obtain ⟨v, rfl, e⟩ := r.one_inv
    obtain ⟨p, ws, rfl, h3, h4⟩ := asL_at hA e h
    rw [h4.ints_inv] at h3
    exact .inl ⟨p, ns, rfl, SqL.of h3, h2, fun ns' p' a b c => k _ _ _ _ _ (q ns' p' a b (hA.noM c)) (hA.got c ⟨_, rfl, RpA.ints ns'⟩) (Kp.got c) rfl⟩
  · obtain ⟨v, rfl, e⟩ := r.one_inv
    obtain ⟨p, ws, rfl, h3, h4⟩ := asL_at hA e h
    rw [h4.strs_inv] at h3
    exact .inr ⟨p, ns, rfl, SqL.of h3, h2, fun ns' p' a b c => k _ _ _ _ _ (q ns' p' a b (hA.noM c)) (hA.got c ⟨_, rfl, RpA.strs ns'⟩) (Kp.got c) rfl⟩
theorem e_sorted [Jx] (hg : Gl X "sorted") (hm : X.mg "sorted" = none) (ha : PA2 X [e] tl tl2) (hv : bootBuiltins "sorted" = some (.builtin "sorted") := by decide +kernel) (he : starEach [e] X.env = (false, eval e X.env) :: starEach [] X.env := by rfl) : PE2 X (.Call (.Name "sorted" p) [e] [] pos) (tCB (rvSorted X.K) tl) (dCB dSorted tl2) :=
  e_cb (crOr cr_sorted cr_sortedS) rc_sorted hg hm hv ha (he := he)
end
end Y

set_option Elab.async false
set_option linter.all false
set_option maxRecDepth 100000
set_option maxHeartbeats 4000000
namespace Y
open PySem PySem.Spec PyProof.Rows L2
section
variable {X : Cx} {K : PySem.W.Frag} {a b c e o : Expr} {es rest : List Expr} {ta tb tc te to : TE} {ta2 tb2 tc2 te2 to2 : TE2} {pos apos cpos p tpos : Pos} {tt tu : TT} {tt2 tu2 : TT2} {tl : TA} {tl2 : TA2} {x : Str}
variable {ρ : Env2} {μ : Mu} {Q : DK} {T F : Mu → Prop} {ts2 : TS2}
theorem w_turnE {G : Mu → Prop} {g : TG2} {d : D} {l xs : List D} {n b c : Env2 → Mu → Prop} {r : DK} (e : l = d :: xs) (h : G μ) (q : g d ρ μ fun ρ2 μ2 => ts2 ⟨Cl (dTurns G g ts2 ⟨n, r, b, c⟩ xs), r, n, Cl (dTurns G g ts2 ⟨n, r, b, c⟩ xs)⟩ ρ2 μ2) : dTurns G g ts2 ⟨n, r, b, c⟩ l ρ μ := by subst e; exact w_turn h q
theorem w_turn0E {G : Mu → Prop} {g : TG2} {l : List D} {n b c : Env2 → Mu → Prop} {r : DK} (e : l = []) (h : G μ) (q : n ρ μ) : dTurns G g ts2 ⟨n, r, b, c⟩ l ρ μ := by subst e; exact w_turn0 h q
theorem w_lcs0E {G : Mu → Prop} {g : TG2} {l acc : List D} (e : l = []) (h : G μ) (q : ∀ p, μ p = none → Q (.adr p) (mup μ p (.lst acc))) : dLcs G g tt2 te2 ρ Q l acc μ := by subst e; exact w_lcs0 h q
theorem w_lcsE {G : Mu → Prop} {g : TG2} {l acc xs : List D} {x : D} (e : l = x :: xs) (h : G μ) (q : g x ρ μ fun ρ2 μ2 => tt2 ρ2 μ2 (fun μ3 => te2 ρ2 μ3 (dLcK G g tt2 te2 ρ Q xs acc)) (fun μ3 => dLcs G g tt2 te2 ρ Q xs acc μ3)) : dLcs G g tt2 te2 ρ Q l acc μ := by subst e; exact w_lcs h q
theorem w_gNilE {l : List D} {QE : Env2 → Mu → Prop} (e : l = []) (q : QE ρ μ) : gNil2 l ρ μ QE := by subst e; exact w_gNil q
theorem w_gConsE {t : TG2} {u : TGs2} {d : D} {l r : List D} {QE : Env2 → Mu → Prop} (e : l = d :: r) (h : t d ρ μ fun ρ1 μ1 => u r ρ1 μ1 QE) : gCons2 t u l ρ μ QE := by subst e; exact w_gCons h
end
end Y

set_option Elab.async false
set_option linter.all false
set_option maxRecDepth 100000
set_option maxHeartbeats 4000000
namespace Y
open PySem PySem.Spec PyProof.Rows L2
/-! ### dicts with ints and texts as keys -/
def kD : Key → D
  | .inl i => .int i
  | .inr x => .str x
def valD : List (Key × D) → Key → Option D
  | [], _ => none
  | (k', v) :: r, k => if k' = k then some v else valD r k
def putD (kvs : List (Key × D)) (k : Key) (v : D) : List (Key × D) :=
  if (kvs.any fun kv => decide (kv.1 = k)) = true then kvs.map (fun kv => if kv.1 = k then (kv.1, v) else kv) else kvs ++ [(k, v)]
def mergeD : List (Key × D) → List (Key × D) → List (Key × D)
  | kvs, [] => kvs
  | kvs, (k, v) :: r => mergeD (putD kvs k v) r
section
variable {K : PySem.W.Frag} {I : Hp}
theorem rp_kD {k : Key} {v : V} (h : Rp K I (kD k) v) : v = kV k := by
  cases k <;> exact h
theorem rp_kV {k : Key} : Rp K I (kD k) (kV k) := by
  cases k <;> rfl
theorem valD_rp {k : Key} : ∀ {kvs : List (Key × D)} {hvs : List (Key × V)}, RpK K I kvs hvs → match valD kvs k with | some d => ∃ v, valV hvs k = some v ∧ Rp K I d v | none => valV hvs k = none
  | [], _, h => by cases h; exact rfl
  | (k', d') :: r, _, h => by
    cases h with
    | @cons _ q _ qs h t =>
      have ih := valD_rp (k := k) t
      show match (if k' = k then some d' else valD r k) with | some d => ∃ v, valV (q :: qs) k = some v ∧ Rp K I d v | none => valV (q :: qs) k = none
      by_cases e : k' = k
      · rw [if_pos e]
        exact ⟨q.2, valV_pos (h.1.symm.trans e), h.2⟩
      · rw [if_neg e, valV_neg (fun z => e (h.1.trans z))]
        exact ih
theorem rpK_any {k : Key} : ∀ {kvs : List (Key × D)} {hvs : List (Key × V)}, RpK K I kvs hvs → (kvs.any fun kv => decide (kv.1 = k)) = (hvs.any fun kv => decide (kv.1 = k))
  | [], _, h => by cases h; rfl
  | p :: r, _, h => by
    cases h with
    | @cons _ q _ qs h t => rw [List.any_cons, List.any_cons, rpK_any t, h.1]
theorem rpK_map {k : Key} {d : D} {v : V} (rv : Rp K I d v) : ∀ {kvs : List (Key × D)} {hvs : List (Key × V)}, RpK K I kvs hvs → RpK K I (kvs.map fun kv => if kv.1 = k then (kv.1, d) else kv) (hvs.map fun kv => if kv.1 = k then (kv.1, v) else kv)
  | [], _, h => by cases h; exact .nil
  | p :: r, _, h => by
    cases h with
    | @cons _ q _ qs h t =>
      rw [List.map_cons, List.map_cons]
      refine .cons ?_ (rpK_map rv t)
      by_cases e : p.1 = k
      · rw [if_pos e, if_pos (h.1.symm.trans e)]; exact ⟨h.1, rv⟩
      · rw [if_neg e, if_neg (fun z => e (h.1.trans z))]; exact h
theorem rpK_snoc {k : Key} {d : D} {v : V} (rv : Rp K I d v) : ∀ {kvs : List (Key × D)} {hvs : List (Key × V)}, RpK K I kvs hvs → RpK K I (kvs ++ [(k, d)]) (hvs ++ [(k, v)])
  | [], _, h => by cases h; exact .cons ⟨rfl, rv⟩ .nil
  | p :: r, _, h => by
    cases h with
    | @cons _ q _ qs h t => exact .cons h (rpK_snoc rv t)
theorem rpK_put {k : Key} {d : D} {v : V} {kvs : List (Key × D)} {hvs : List (Key × V)} (h : RpK K I kvs hvs) (rv : Rp K I d v) : RpK K I (putD kvs k d) (putK hvs k v) := by
  unfold putD putK
  rw [rpK_any h]
  split
  · exact rpK_map rv h
  · exact rpK_snoc rv h
theorem rpK_merge : ∀ {more kvs : List (Key × D)} {hmore hvs : List (Key × V)}, RpK K I more hmore → RpK K I kvs hvs → RpK K I (mergeD kvs more) (mergeK hvs hmore)
  | [], _, _, _, h, g => by cases h; exact g
  | (k', d') :: r, _, _, _, h, g => by
    cases h with
    | @cons _ q _ qs h t =>
      have := rpK_merge t (rpK_put (k := k') g h.2)
      rw [show mergeK _ (q :: qs) = mergeK (putK _ q.1 q.2) qs from rfl, ← h.1]
      exact this
theorem rpK_length : ∀ {kvs : List (Key × D)} {hvs : List (Key × V)}, RpK K I kvs hvs → kvs.length = hvs.length
  | [], _, h => by cases h; rfl
  | p :: r, _, h => by
    cases h with
    | @cons _ q _ qs h t => rw [List.length_cons, List.length_cons, rpK_length t]
theorem rpK_kv : ∀ {kvs : List (Key × D)} {ps : List (V × V)}, Paired (fun p q => Rp K I p.1 q.1 ∧ Rp K I p.2 q.2) (kvs.map fun kv => (kD kv.1, kv.2)) ps → ∃ hvs : List (Key × V), ps = hvs.map (fun kv => (kV kv.1, kv.2)) ∧ RpK K I kvs hvs
  | [], _, h => by rw [List.map_nil] at h; cases h; exact ⟨[], rfl, .nil⟩
  | p :: r, _, h => by
    rw [List.map_cons] at h
    cases h with
    | @cons _ q _ qs h t =>
      obtain ⟨hvs, rfl, g⟩ := rpK_kv t
      refine ⟨(p.1, q.2) :: hvs, ?_, .cons ⟨rfl, h.2⟩ g⟩
      rw [List.map_cons, ← rp_kD h.1]
end
section
variable {X : Cx} {K : PySem.W.Frag} {a b c e o i : Expr} {es rest : List Expr} {ta tb tc te to ti : TE} {ta2 tb2 tc2 te2 to2 ti2 : TE2} {pos apos cpos p tpos : Pos} {tt tu : TT} {tt2 tu2 : TT2} {tl : TA} {tl2 : TA2} {x : Str}
variable {ρ : Env2} {μ : Mu} {Q : DK} {T F : Mu → Prop} {st : Stmt} {k : Nat}
def dDGet : DR2 := fun x y μ Q => ∃ a kvs k d, x = .adr a ∧ μ a = some (.dk kvs) ∧ y = kD k ∧ valD kvs k = some d ∧ Q d μ
theorem w_dgetS {p : Addr} {kvs : List (Key × D)} {z : Str} {d : D} (h : μ p = some (.dk kvs)) (h2 : valD kvs (.inr z) = some d) (q : Q d μ) : dDGet (.adr p) (.str z) μ Q := ⟨p, kvs, .inr z, d, rfl, h, rfl, h2, q⟩
theorem w_dgetI {p : Addr} {kvs : List (Key × D)} {z : Int} {d : D} (h : μ p = some (.dk kvs)) (h2 : valD kvs (.inl z) = some d) (q : Q d μ) : dDGet (.adr p) (.int z) μ Q := ⟨p, kvs, .inl z, d, rfl, h, rfl, h2, q⟩
theorem at_dk [Jx] {I H : Hp} {kvs : List (Key × D)} {p : Addr} (hA : At K μ I H) (h : μ p = some (.dk kvs)) : ∃ hvs, H p = some (.dK hvs) ∧ RpK K I kvs hvs := by
  obtain ⟨_, ho, h1, hvs, rfl, r⟩ := hA.own p _ h
  exact ⟨hvs, h1, r⟩
theorem e_dget [Jx] (hr : Room k X.A) (ho : PE2 X o to to2) (hi : PE2 X i ti ti2) (hs : NoSl i) : PE2 X (.Subscript o i pos) (tDGet to ti) (dOp dDGet to2 ti2) :=
  ⟨pe_dget (Nat.lt_of_le_of_lt (Nat.add_le_add_left (by decide) _) hr.units) ho.pe hi.pe hs, fun ρ μ Q2 q I σ H hA hS Q g => ho.re ρ μ _ q I σ H hA hS _ fun x μ1 vx I1 H1 q1 a1 k1 r1 => hi.re ρ μ1 _ q1 I1 σ H1 a1 (hS.mono k1.ex) _ fun y μ2 vy I2 H2 q2 a2 k2 r2 => by
    obtain ⟨p, kvs, k, d, rfl, h, rfl, e, q3⟩ := q2
    obtain ⟨hvs, h1, r⟩ := at_dk a2 h
    have hv := valD_rp (k := k) r
    rw [e] at hv
    obtain ⟨v, e1, rv⟩ := hv
    cases rp_kD r2
    exact ⟨p, v, r1, e1 ▸ DGet.k h1, g _ _ _ _ _ q3 a2 (k1.trans k2) rv⟩⟩
def dInD : DR2 := fun y x μ Q => ∃ a kvs k, x = .adr a ∧ μ a = some (.dk kvs) ∧ y = kD k ∧ Q (.bl (valD kvs k).isSome) μ
def dNotInD : DR2 := fun y x μ Q => ∃ a kvs k, x = .adr a ∧ μ a = some (.dk kvs) ∧ y = kD k ∧ Q (.bl (!(valD kvs k).isSome)) μ
theorem w_inDS {p : Addr} {kvs : List (Key × D)} {z : Str} (h : μ p = some (.dk kvs)) (q : Q (.bl (valD kvs (.inr z)).isSome) μ) : dInD (.str z) (.adr p) μ Q := ⟨p, kvs, .inr z, rfl, h, rfl, q⟩
theorem w_inDI {p : Addr} {kvs : List (Key × D)} {z : Int} (h : μ p = some (.dk kvs)) (q : Q (.bl (valD kvs (.inl z)).isSome) μ) : dInD (.int z) (.adr p) μ Q := ⟨p, kvs, .inl z, rfl, h, rfl, q⟩
theorem w_notInDS {p : Addr} {kvs : List (Key × D)} {z : Str} (h : μ p = some (.dk kvs)) (q : Q (.bl (!(valD kvs (.inr z)).isSome)) μ) : dNotInD (.str z) (.adr p) μ Q := ⟨p, kvs, .inr z, rfl, h, rfl, q⟩
theorem w_notInDI {p : Addr} {kvs : List (Key × D)} {z : Int} (h : μ p = some (.dk kvs)) (q : Q (.bl (!(valD kvs (.inl z)).isSome)) μ) : dNotInD (.int z) (.adr p) μ Q := ⟨p, kvs, .inl z, rfl, h, rfl, q⟩
theorem val_some {I : Hp} {kvs : List (Key × D)} {hvs : List (Key × V)} {k : Key} (r : RpK K I kvs hvs) : (valV hvs k).isSome = (valD kvs k).isSome := by
  have hv := valD_rp (k := k) r
  cases e : valD kvs k with
  | none => rw [e] at hv; rw [hv]; rfl
  | some d => rw [e] at hv; obtain ⟨v, e1, _⟩ := hv; rw [e1]; rfl
theorem re_inD [Jx] (hi : RE K ti ti2) (ho : RE K to to2) : RE K (tDIn ti to) (dOp dInD ti2 to2) := fun ρ μ Q2 q I σ H hA hS Q g => hi ρ μ _ q I σ H hA hS _ fun x μ1 vx I1 H1 q1 a1 k1 r1 => ho ρ μ1 _ q1 I1 σ H1 a1 (hS.mono k1.ex) _ fun y μ2 vy I2 H2 q2 a2 k2 r2 => by
    obtain ⟨p, kvs, k, rfl, h, rfl, q3⟩ := q2
    obtain ⟨hvs, h1, r⟩ := at_dk a2 h
    cases rp_kD r1
    exact ⟨p, _, r2, DGet.k h1, g _ _ _ _ _ q3 a2 (k1.trans k2) (by rw [val_some r]; rfl)⟩
theorem re_notInD [Jx] (hi : RE K ti ti2) (ho : RE K to to2) : RE K (tDNotIn ti to) (dOp dNotInD ti2 to2) := fun ρ μ Q2 q I σ H hA hS Q g => hi ρ μ _ q I σ H hA hS _ fun x μ1 vx I1 H1 q1 a1 k1 r1 => ho ρ μ1 _ q1 I1 σ H1 a1 (hS.mono k1.ex) _ fun y μ2 vy I2 H2 q2 a2 k2 r2 => by
    obtain ⟨p, kvs, k, rfl, h, rfl, q3⟩ := q2
    obtain ⟨hvs, h1, r⟩ := at_dk a2 h
    cases rp_kD r1
    exact ⟨p, _, r2, DGet.k h1, g _ _ _ _ _ q3 a2 (k1.trans k2) (by rw [val_some r]; rfl)⟩
theorem e_inD [Jx] (hr : Room k X.A) (hi : PE2 X i ti ti2) (ho : PE2 X o to to2) (hm : behindInMarks .In o = false) : PE2 X (.Compare i [.In] [o] pos) (tDIn ti to) (dOp dInD ti2 to2) := ⟨pe_cmp (pc_din (Nat.lt_of_le_of_lt (Nat.add_le_add_left (by decide) _) hr.units) hi.pe ho.pe) hm, re_inD hi.re ho.re⟩
theorem e_notInD [Jx] (hr : Room k X.A) (hi : PE2 X i ti ti2) (ho : PE2 X o to to2) (hm : behindInMarks .NotIn o = false) : PE2 X (.Compare i [.NotIn] [o] pos) (tDNotIn ti to) (dOp dNotInD ti2 to2) := ⟨pe_cmp (pc_dnotin (Nat.lt_of_le_of_lt (Nat.add_le_add_left (by decide) _) hr.units) hi.pe ho.pe) hm, re_notInD hi.re ho.re⟩
/-! ### a display -/
def dPairs : List (TE2 × TE2) → Env2 → Mu → (List (D × D) → Mu → Prop) → Prop
  | [], _, μ, Q => Q [] μ
  | (tk, tv) :: r, ρ, μ, Q => tk ρ μ fun x μ1 => tv ρ μ1 fun y μ2 => dPairs r ρ μ2 fun ps μ3 => Q ((x, y) :: ps) μ3
def dDispK (p : Addr) (Q : DK) : List (D × D) → Mu → Prop := fun ps μ2 => μ2 p = some (.dk []) ∧ ∃ kvs : List (Key × D), ps = kvs.map (fun kv => (kD kv.1, kv.2)) ∧ kvs.length ≤ 15 ∧ Q (.adr p) (mup μ2 p (.dk (mergeD [] kvs)))
def dDisp (trs : List (TE2 × TE2)) : TE2 := fun ρ μ Q => ∀ p, μ p = none → dPairs trs ρ (mup μ p (.dk [])) (dDispK p Q)
structure PD2 [Jx] (X : Cx) (pos : Pos) (ks : List (Option Expr)) (vs : List Expr) (trs : List (TE × TE)) (trs2 : List (TE2 × TE2)) : Prop where
  pp : PPs X pos ks vs trs
  re : ∀ ρ μ Q2, dPairs trs2 ρ μ Q2 → ∀ I σ H, At X.K μ I H → Slots X.K I ρ σ → ∀ Q : List (V × V) → Hp → Prop,
    (∀ ps μ' vs I' H', Q2 ps μ' → At X.K μ' I' H' → Kp I μ H I' μ' H' → Paired (fun p q => Rp X.K I' p.1 q.1 ∧ Rp X.K I' p.2 q.2) ps vs → Q vs H') → tPairs trs σ H Q
theorem dd_nil [Jx] : PD2 X pos [] [] [] [] := ⟨pps_nil, fun ρ μ Q2 q I σ H hA hS Q g => g _ _ _ _ _ q hA Kp.refl .nil⟩
theorem dd_cons [Jx] {kx vx : Expr} {ks : List (Option Expr)} {vs : List Expr} {trs : List (TE × TE)} {trs2 : List (TE2 × TE2)} (hk : PE2 X kx ti ti2) (hv : PE2 X vx te te2) (h : PD2 X pos ks vs trs trs2) : PD2 X pos (some kx :: ks) (vx :: vs) ((ti, te) :: trs) ((ti2, te2) :: trs2) :=
  ⟨pps_cons hk.pe hv.pe h.pp, fun ρ μ Q2 q I σ H hA hS Q g => hk.re ρ μ _ q I σ H hA hS _ fun x μ1 wx I1 H1 q1 a1 k1 r1 => hv.re ρ μ1 _ q1 I1 σ H1 a1 (hS.mono k1.ex) _ fun y μ2 wy I2 H2 q2 a2 k2 r2 =>
    h.re ρ μ2 _ q2 I2 σ H2 a2 (hS.mono (k1.ex.trans k2.ex)) _ fun ps μ3 ws I3 H3 q3 a3 k3 r3 => g _ _ _ _ _ q3 a3 ((k1.trans k2).trans k3) (.cons ⟨(r1.mono k2.ex).mono k3.ex, r2.mono k3.ex⟩ r3)⟩
theorem e_dict [Jx] {ks : List (Option Expr)} {vs : List Expr} {trs : List (TE × TE)} {trs2 : List (TE2 × TE2)} (h : PD2 X pos ks vs trs trs2) (hall : ks.all (·.isSome) = true := by rfl) (hl : ks.length = vs.length := by rfl) (h0 : ks ≠ [] := by simp) (h15 : ks.length ≤ 15 := by decide) : PE2 X (.Dict ks vs pos) (tDisp trs) (dDisp trs2) :=
  ⟨pe_disp h.pp hall hl h0 h15, fun ρ μ Q2 q I σ H hA hS Q g p hp => by
    have hm := hA.noM hp
    have a0 : At X.K (mup μ p (.dk [])) I (upd H p (.dK [])) := hA.got hp ⟨[], rfl, .nil⟩
    refine h.re ρ _ _ (q p hm) I σ _ a0 hS _ fun ps μ2 vs I2 H2 q2 a2 k2 r2 => ?_
    obtain ⟨e, kvs, rfl, l15, q3⟩ := q2
    obtain ⟨hvs, h1, r⟩ := at_dk a2 e
    cases r
    obtain ⟨hk, rfl, rk⟩ := rpK_kv r2
    refine ⟨h1, hk, rfl, by rw [← rpK_length rk]; exact l15, ?_⟩
    have rm := rpK_merge rk (.nil : RpK X.K I2 [] [])
    exact g _ _ _ _ _ q3 (a2.put e ⟨_, rfl, rm⟩) (((Kp.got hp).trans k2).trans (Kp.put e)) rfl⟩
theorem w_disp {trs : List (TE2 × TE2)} (h : ∀ p, μ p = none → dPairs trs ρ (mup μ p (.dk [])) (dDispK p Q)) : dDisp trs ρ μ Q := h
theorem w_pairs0 {QA : List (D × D) → Mu → Prop} (h : QA [] μ) : dPairs [] ρ μ QA := h
theorem w_pairs {trs : List (TE2 × TE2)} {QA : List (D × D) → Mu → Prop} (h : ti2 ρ μ fun x μ1 => te2 ρ μ1 fun y μ2 => dPairs trs ρ μ2 fun ps μ3 => QA ((x, y) :: ps) μ3) : dPairs ((ti2, te2) :: trs) ρ μ QA := h
theorem w_dispK {p : Addr} {ps : List (D × D)} (kvs : List (Key × D)) (h : μ p = some (.dk [])) (e : ps = kvs.map fun kv => (kD kv.1, kv.2)) (l : kvs.length ≤ 15) (q : Q (.adr p) (mup μ p (.dk (mergeD [] kvs)))) : dDispK p Q ps μ := ⟨h, kvs, e, l, q⟩
end
end Y

set_option Elab.async false
set_option linter.all false
set_option maxRecDepth 100000
set_option maxHeartbeats 4000000
namespace Y
open PySem PySem.Spec PyProof.Rows L2
mutual
/-- whole numbers, texts, None and rows of them: equal if and only if they are the same -/
def D.pln : D → Bool
  | .non => true
  | .int _ => true
  | .str _ => true
  | .tup ds => D.plnA ds
  | .lst ds => D.plnA ds
  | _ => false
def D.plnA : List D → Bool
  | [] => true
  | d :: ds => D.pln d && D.plnA ds
end
mutual
theorem eqv_pln : ∀ {x y : D}, D.pln x = true → D.pln y = true → (PyData.eqv x.py y.py = true ↔ x = y)
  | .non, y, h, g => by
    cases y <;> first | (cases g; done) | (constructor <;> intro e <;> first | rfl | cases e)
  | .int i, y, h, g => by
    cases y with
    | int j => show (i == j) = true ↔ _; rw [beq_iff_eq]; exact ⟨fun e => by rw [e], fun e => by cases e; rfl⟩
    | non => constructor <;> intro e <;> cases e
    | str _ => constructor <;> intro e <;> cases e
    | tup _ => constructor <;> intro e <;> cases e
    | lst _ => constructor <;> intro e <;> cases e
    | _ => cases g
  | .str i, y, h, g => by
    cases y with
    | str j => show (i == j) = true ↔ _; rw [beq_iff_eq]; exact ⟨fun e => by rw [e], fun e => by cases e; rfl⟩
    | non => constructor <;> intro e <;> cases e
    | int _ => constructor <;> intro e <;> cases e
    | tup _ => constructor <;> intro e <;> cases e
    | lst _ => constructor <;> intro e <;> cases e
    | _ => cases g
  | .tup xs, y, h, g => by
    cases y with
    | tup ys => show PyData.eqvAll (D.pyA xs) (D.pyA ys) = true ↔ _; rw [eqvA_pln h g]; exact ⟨fun e => by rw [e], fun e => by cases e; rfl⟩
    | non => constructor <;> intro e <;> cases e
    | int _ => constructor <;> intro e <;> cases e
    | str _ => constructor <;> intro e <;> cases e
    | lst _ => constructor <;> intro e <;> cases e
    | _ => cases g
  | .lst xs, y, h, g => by
    cases y with
    | lst ys => show PyData.eqvAll (D.pyA xs) (D.pyA ys) = true ↔ _; rw [eqvA_pln h g]; exact ⟨fun e => by rw [e], fun e => by cases e; rfl⟩
    | non => constructor <;> intro e <;> cases e
    | int _ => constructor <;> intro e <;> cases e
    | str _ => constructor <;> intro e <;> cases e
    | tup _ => constructor <;> intro e <;> cases e
    | _ => cases g
  | .bl _, _, h, _ => by cases h
  | .ty _, _, h, _ => by cases h
  | .adr _, _, h, _ => by cases h
  | .obj _ _ _, _, h, _ => by cases h
  | .scr _, _, h, _ => by cases h
  | .tun _, _, h, _ => by cases h
theorem eqvA_pln : ∀ {xs ys : List D}, D.plnA xs = true → D.plnA ys = true → (PyData.eqvAll (D.pyA xs) (D.pyA ys) = true ↔ xs = ys)
  | [], [], _, _ => by constructor <;> intro _ <;> rfl
  | [], _ :: _, _, _ => by constructor <;> intro e <;> cases e
  | _ :: _, [], _, _ => by constructor <;> intro e <;> cases e
  | x :: xs, y :: ys, h, g => by
    unfold D.plnA at h g
    rw [Bool.and_eq_true] at h g
    show (PyData.eqv x.py y.py && PyData.eqvAll (D.pyA xs) (D.pyA ys)) = true ↔ _
    rw [Bool.and_eq_true, eqv_pln h.1 g.1, eqvA_pln h.2 g.2]
    exact ⟨fun e => by rw [e.1, e.2], fun e => by cases e; exact ⟨rfl, rfl⟩⟩
end
theorem plnA_all : ∀ {ds : List D}, (∀ d ∈ ds, D.pln d = true) → D.plnA ds = true
  | [], _ => rfl
  | d :: ds, h => by
    unfold D.plnA
    rw [h d List.mem_cons_self, plnA_all fun e he => h e (List.mem_cons_of_mem _ he)]; rfl
theorem shpA_all {n : Nat} : ∀ {ds : List D}, (∀ d ∈ ds, D.shp n d = true) → D.shpA n ds = true
  | [], _ => by cases n <;> rfl
  | d :: ds, h => by
    unfold D.shpA
    rw [h d List.mem_cons_self, shpA_all fun e he => h e (List.mem_cons_of_mem _ he)]; rfl
theorem eqv_dec {x y : D} (h : D.pln x = true) (g : D.pln y = true) [Decidable (x = y)] : PyData.eqv x.py y.py = decide (x = y) := by
  have e := eqv_pln h g
  by_cases z : x = y
  · rw [decide_eq_true z]; exact e.mpr z
  · rw [decide_eq_false z]
    cases q : PyData.eqv x.py y.py with
    | false => rfl
    | true => exact absurd (e.mp q) z
/-- whole numbers -/
abbrev intsD (ns : List Int) : D := .lst (ns.map D.int)
abbrev natsD (ns : List Nat) : D := .lst (ns.map fun n : Nat => D.int (n : Int))
theorem shp_nats {ns : List Nat} : D.shp 64 (natsD ns) = true := shpA_all (n := 63) fun d h => by
  simp only [List.mem_map] at h
  obtain ⟨i, _, rfl⟩ := h; rfl
theorem pln_nats {ns : List Nat} : D.pln (natsD ns) = true := plnA_all fun d h => by
  simp only [List.mem_map] at h
  obtain ⟨i, _, rfl⟩ := h; rfl
theorem nats_inj : ∀ {a b : List Nat}, a.map (fun n : Nat => D.int (n : Int)) = b.map (fun n : Nat => D.int (n : Int)) → a = b
  | [], [], _ => rfl
  | [], _ :: _, h => by cases h
  | _ :: _, [], h => by cases h
  | x :: a, y :: b, h => by
    rw [List.map_cons, List.map_cons] at h
    injection h with h1 h2
    injection h1 with h1
    rw [nats_inj h2, Int.ofNat.inj h1]
theorem eqv_nats {a b : List Nat} : PyData.eqv (natsD a).py (natsD b).py = decide (a = b) := by
  have e := eqv_pln (pln_nats (ns := a)) (pln_nats (ns := b))
  by_cases z : a = b
  · rw [decide_eq_true z]; exact e.mpr (by rw [z])
  · rw [decide_eq_false z]
    cases q : PyData.eqv (natsD a).py (natsD b).py with
    | false => rfl
    | true => exact absurd (nats_inj (by injection e.mp q)) z
theorem Sub.del {μ μ' : Mu} {p : Addr} (h : Sub μ μ') (hp : μ p = none) : Sub μ (mdel μ' p) := fun b m e => by
  have hb : b ≠ p := fun z => by rw [z, hp] at e; cases e
  rw [mdel_ne hb]; exact h b m e
def keyD : D → Key
  | .str x => .inr x
  | .int i => .inl i
  | _ => .inl 0
def prKs : List (D × D) → List (Key × D)
  | [] => []
  | (x, y) :: r => (keyD x, y) :: prKs r
theorem w_dispE {μ : Mu} {Q : DK} {p : Addr} {ps : List (D × D)} (h : μ p = some (.dk [])) (e : ps = (prKs ps).map fun kv => (kD kv.1, kv.2)) (l : (prKs ps).length ≤ 15) (q : Q (.adr p) (mup μ p (.dk (mergeD [] (prKs ps))))) : dDispK p Q ps μ := w_dispK _ h e l q
theorem none_sub {μ μ' : Mu} {p : Addr} (s : Sub μ μ') (h : μ' p = none) : μ p = none := by
  cases q : μ p with
  | none => rfl
  | some m => rw [s _ _ q] at h; cases h
section
variable {ρ : Env2} {μ : Mu} {Q : DK} {tt2 : TT2} {te2 : TE2} {T F : Mu → Prop}
theorem br_eqv {A B : Prop} {x y : D} (h : D.pln x = true) (g : D.pln y = true) (t : x = y → A) (f : x ≠ y → B) : Br (PyData.eqv x.py y.py) A B := by
  cases q : PyData.eqv x.py y.py with
  | true => exact br_t (t ((eqv_pln h g).mp q))
  | false => exact br_f (f fun e => by rw [(eqv_pln h g).mpr e] at q; cases q)
/-- a comprehension by what holds between its turns -/
theorem w_lcInv {G : Mu → Prop} {g : TG2} (Iv : List D → List D → Mu → Prop) (hG : ∀ xs acc μ, Iv xs acc μ → G μ ∧ acc.length < sizeLine)
    (hs : ∀ x xs acc μ, Iv (x :: xs) acc μ → ∀ (N : DK) (N0 : Mu → Prop), (∀ d μ', Iv xs (acc ++ [d]) μ' → N d μ') → (∀ μ', Iv xs acc μ' → N0 μ') → g x ρ μ fun ρ2 μ2 => tt2 ρ2 μ2 (fun μ3 => te2 ρ2 μ3 N) N0)
    (hd : ∀ acc μ, Iv [] acc μ → ∀ p, μ p = none → Q (.adr p) (mup μ p (.lst acc))) : ∀ xs acc μ, Iv xs acc μ → dLcs G g tt2 te2 ρ Q xs acc μ
  | [], acc, μ, h => ⟨(hG _ _ _ h).1, hd acc μ h⟩
  | x :: xs, acc, μ, h => ⟨(hG _ _ _ h).1, hs x xs acc μ h _ _ (fun d μ' h' => ⟨(hG _ _ _ h).2, w_lcInv Iv hG hs hd xs _ μ' h'⟩) fun μ' h' => w_lcInv Iv hG hs hd xs acc μ' h'⟩
/-- .. of one thing for each item, where nothing changes -/
theorem w_lcMap {G : Mu → Prop} {g : TG2} (f : D → D) (hG : G μ) {xs : List D} (hl : xs.length < sizeLine) (hs : ∀ x ∈ xs, ∀ (N : DK) (N0 : Mu → Prop), N (f x) μ → g x ρ μ fun ρ2 μ2 => tt2 ρ2 μ2 (fun μ3 => te2 ρ2 μ3 N) N0)
    (hd : ∀ p, μ p = none → Q (.adr p) (mup μ p (.lst (xs.map f)))) : dLcs G g tt2 te2 ρ Q xs [] μ := by
  refine w_lcInv (fun ys acc μ' => μ' = μ ∧ (∃ zs, zs ++ ys = xs ∧ acc = zs.map f)) ?_ ?_ ?_ xs [] μ ⟨rfl, [], rfl, rfl⟩
  · rintro ys acc _ ⟨rfl, zs, rfl, rfl⟩
    refine ⟨hG, ?_⟩
    rw [List.length_append] at hl
    rw [List.length_map]; omega
  · rintro x ys acc _ ⟨rfl, zs, rfl, rfl⟩ N N0 h _
    refine hs x (List.mem_append_right _ List.mem_cons_self) N N0 (h _ _ ⟨rfl, zs ++ [x], by simp, by simp⟩)
  · rintro acc _ ⟨rfl, zs, rfl, rfl⟩ p hp
    rw [List.append_nil] at hd
    exact hd p hp
end
end Y

set_option Elab.async false
set_option linter.all false
set_option maxRecDepth 100000
set_option maxHeartbeats 4000000
namespace PySem
open Sem (wp)
open AutoSeq1 (wpAny_loadPart')
section
variable {prog : Program} {w : World} {A : Around} {E : Value → Shared → Prop} {s : Shared}
theorem code_tuple_new_text {x : Str} {t : Tok} {Q₁ : Value → Shared → Prop} (hh : A.handled = none) (hn : x.cps.size ≤ sizeLine)
    (h : ∀ (s' : Shared) (acc : Array Value), (∀ b o, s.heap.get? b = some o → s'.heap.get? b = some o) → s'.gens = s.gens → s'.drawn = s.drawn → s'.os = s.os → ItemsOf (SignAt x) acc x.cps.size →
      Q₁ (.ref s'.heap.objs.size) { s' with heap := s'.heap.push { cls := .type "tuple", data := .seq acc } }) :
    codeAny (model prog w) A (.call (.builtin "tuple.__new__") ⟨[.type "tuple", .str x t], []⟩) (wants Q₁ E) s := by
  refine codeAny_of_tree ?_
  show wpAny _ A.in1 (do checkBuiltinCall "tuple.__new__" ⟨[.type "tuple", .str x t], []⟩; again (.builtin "tuple.__new__" ⟨[.type "tuple", .str x t], []⟩)) _ _ s
  refine wpAny_bind (wpAny_of_eq (F.newCall_tuple_1 _) (wpAny_pure ⟨plainId_quiet F.plain_tuple_new _, codeAny_builtin F.entry_tuple_new ?_⟩))
  rw [Around.under_plainId F.plain_tuple_new _]
  have hsub := sub_tuple_self
  have hinit := init_tuple_lookup
  have hmh := madeHere_tuple
  have hTI : s.TypeIs (.str x t) "str" := rfl
  have hh1 : A.in1.handled = none := hh
  wp_walk using wpAny_typeOf hTI, wpAny_collect_str (A := A.in1) (hn := hn) hh1 x t
  intro s' acc hk hg hd ho hacc
  show wpAny _ _ (Builtin.Tuple.tupleExact acc.toList.toArray >>= fun v => ret v) _ _ _
  unfold Builtin.Tuple.tupleExact
  refine wpAny_bind (wpAny_newObj_type ?_ (by show acc.toList.toArray.size ≤ sizeLine; simp only [Array.toArray_toList]; rw [hacc.1]; exact hn))
  refine wpAny_pure ?_
  have e : acc.toList.toArray = acc := by simp
  rw [e]
  exact h s' acc hk hg hd ho hacc
theorem call_tuple_text {x : Str} {t : Tok} {Q : Value → Shared → Prop} (hh : A.handled = none) (hn : x.cps.size ≤ sizeLine)
    (hQ : ∀ (s' : Shared) (acc : Array Value), (∀ b o, s.heap.get? b = some o → s'.heap.get? b = some o) → s'.gens = s.gens → s'.drawn = s.drawn → s'.os = s.os → ItemsOf (SignAt x) acc x.cps.size →
      Q (.ref s'.heap.objs.size) { s' with heap := s'.heap.push { cls := .type "tuple", data := .seq acc } }) :
    wpAny (model prog w) A (call (.type "tuple") [.str x t]) Q E s := by
  refine callType_codes (Q₁ := fun obj s₁ => s₁.TypeIs obj "tuple" ∧ Q obj s₁) F.called_tuple (F.typeCall_tuple_1 _) F.entry_object_init
    (code_tuple_new_text (A := A.in1) hh hn fun s' acc hk hg hd ho hacc => ⟨⟨_, Heap.get?_push_size _ rfl, rfl⟩, hQ s' acc hk hg hd ho hacc⟩) fun obj s₁ h₁ => ?_
  exact ⟨h₁.1, F.args_object_init_2 obj _, object_init_meets F.called_tuple.init.lookup F.called_tuple.made (by decide) prog w A.in1 _ s₁ ⟨h₁.1, rfl, h₁.2⟩⟩
end
end PySem
namespace Y
open PySem PySem.Spec PyProof.Rows L2
theorem asL_lst {μ : Mu} {ds : List D} : asL μ (.lst ds) = some ds := rfl
theorem asS_lst {μ : Mu} {ds : List D} : asS μ (.lst ds) = some ds := rfl
theorem asS_tup {μ : Mu} {ds : List D} : asS μ (.tup ds) = some ds := rfl
/-- the signs of a text -/
abbrev sgV (z : Str) : List V := z.cps.toList.map fun c => V.str ⟨#[c]⟩
abbrev sgD (z : Str) : List D := z.cps.toList.map fun c => D.str ⟨#[c]⟩
theorem vals_signs : ∀ {l : List Nat} {us : List Value}, us.length = l.length → (∀ (j : Nat) (v : Value), us[j]? = some v → ∃ (c : Nat) (u : Tok), l[j]? = some c ∧ v = Value.str ⟨#[c]⟩ u) → Vals (l.map fun c => V.str ⟨#[c]⟩) us
  | [], [], _, _ => .nil
  | [], _ :: _, h, _ => by cases h
  | _ :: _, [], h, _ => by cases h
  | c :: l, u :: us, h, g => by
    obtain ⟨c', t, e, rfl⟩ := g 0 u rfl
    cases e
    exact .cons ⟨t, rfl⟩ (vals_signs (Nat.succ.inj h) fun j v e => by simpa using g (j + 1) v (by simpa using e))
theorem vals_text {x : Str} {acc : Array Value} (h : ItemsOf (SignAt x) acc x.cps.size) : Vals (sgV x) acc.toList :=
  vals_signs (by rw [Array.length_toList, h.1, Array.length_toList]) fun j v e => by
    obtain ⟨c, u, e1, e2⟩ := h.2 j v (by rw [← Array.getElem?_toList]; exact e)
    exact ⟨c, u, by rw [Array.getElem?_toList]; exact e1, e2⟩
section
variable {X : Cx}
theorem call_listText (hc : X.calm = true) : CallR X (.type "list") (fun xs H Q => ∃ z : Str, xs = [.str z] ∧ z.length ≤ sizeLine ∧ ∀ l, H l = none → Q (.ref l) (upd H l (.lst (sgV z)))) := by
  intro pins s σ H xs us Q I r h
  obtain ⟨z, rfl, hz, q⟩ := h
  obtain ⟨u, rfl, t, rfl⟩ := vals1 r
  refine call_list_str (hn := hz) (I.ok.hd hc) z t fun h' tk acc c' hk hS hacc => ?_
  refine ⟨.ref s.heap.objs.size, _, I.laid (t' := tk) hk (Nat.le_refl _) (show ObjOk X.prog X.w _ h' _ (.lst (sgV z)) from ⟨?_, acc.toList, c', vals_text hacc, by rw [Array.toArray_toList]; exact hS⟩), rfl, q _ (I.hok.fresh (Nat.le_refl _))⟩
  rw [List.length_map, Array.length_toList]; exact hz
theorem call_tupText (hc : X.calm = true) : CallR X (.type "tuple") (fun xs H Q => ∃ z : Str, xs = [.str z] ∧ z.length ≤ sizeLine ∧ ∀ l, H l = none → Q (.ref l) (upd H l (.tup (sgV z)))) := by
  intro pins s σ H xs us Q I r h
  obtain ⟨z, rfl, hz, q⟩ := h
  obtain ⟨u, rfl, t, rfl⟩ := vals1 r
  refine call_tuple_text (I.ok.hd hc) hz fun s' acc hk hg hd ho hacc => ?_
  obtain ⟨h', g', d', tk, os⟩ := s'
  cases hg; cases hd; cases ho
  have I1 : Inv X pins σ H { s with heap := h', toks := tk } := I.kept (t' := tk) hk
  have hlen : acc.size ≤ sizeLine := by rw [hacc.1]; exact hz
  have I2 : Inv X pins σ (upd H h'.objs.size (.tup (sgV z))) { s with heap := h'.push { cls := .type "tuple", data := .seq acc }, toks := tk } :=
    I1.laid (t' := tk) (fun b o e => Heap.get?_push_of_some _ e) (Nat.le_refl _) (show ObjOk X.prog X.w _ _ _ (.tup (sgV z)) from ⟨by rw [List.length_map, Array.length_toList]; exact hz, acc.toList, vals_text hacc, by rw [Array.toArray_toList]; exact IsTup.new _ _⟩)
  exact ⟨.ref h'.objs.size, _, I2, rfl, q _ (I1.hok.fresh (Nat.le_refl _))⟩
section
variable {K : PySem.W.Frag} {a b c e o i : Expr} {es rest : List Expr} {ta tb tc te to ti : TE} {ta2 tb2 tc2 te2 to2 ti2 : TE2} {pos apos cpos p tpos : Pos} {tl : TA} {tl2 : TA2} {x : Str}
variable {ρ : Env2} {μ : Mu} {Q : DK}
theorem rpA_signs {I : Hp} : ∀ l : List Nat, RpA K I (l.map fun c => D.str ⟨#[c]⟩) (l.map fun c => V.str ⟨#[c]⟩)
  | [] => rfl
  | c :: l => ⟨_, _, rfl, rfl, rpA_signs l⟩
def dListText : DRC := fun xs μ Q => ∃ z : Str, xs = [.str z] ∧ z.length ≤ sizeLine ∧ ∀ p, μ p = none → Q (.adr p) (mup μ p (.lst (sgD z)))
theorem w_listText {z : Str} (h : z.length ≤ sizeLine) (q : ∀ p, μ p = none → Q (.adr p) (mup μ p (.lst (sgD z)))) : dListText [.str z] μ Q := ⟨z, rfl, h, q⟩
abbrev rvListText : List V → Hp → VK → Prop := fun xs H Q => ∃ z : Str, xs = [.str z] ∧ z.length ≤ sizeLine ∧ ∀ l, H l = none → Q (.ref l) (upd H l (.lst (sgV z)))
theorem e_listText [Jx] (hc : X.calm = true) (hg : Gl X "list") (hm : X.mg "list" = none) (ha : PA2 X [e] tl tl2) (hv : bootBuiltins "list" = some (.type "list") := by decide +kernel) (he : starEach [e] X.env = (false, eval e X.env) :: starEach [] X.env := by rfl) : PE2 X (.Call (.Name "list" p) [e] [] pos) (tCB rvListText tl) (dCB dListText tl2) :=
  e_cty (call_listText hc) (fun xs μ Q2 q I H vs hA r Q k => by
    obtain ⟨z, rfl, h, q⟩ := q
    obtain ⟨v, rfl, e⟩ := r.one_inv
    cases (show v = _ from e)
    exact ⟨z, rfl, h, fun l hl => k _ _ _ _ _ (q l (hA.noM hl)) (hA.got hl ⟨_, rfl, rpA_signs _⟩) (Kp.got hl) rfl⟩) hg hm hv ha (he := he)
def dTupText : DRC := fun xs μ Q => ∃ z : Str, xs = [.str z] ∧ z.length ≤ sizeLine ∧ Q (.tup (sgD z)) μ
theorem w_tupText {z : Str} (h : z.length ≤ sizeLine) (q : Q (.tup (sgD z)) μ) : dTupText [.str z] μ Q := ⟨z, rfl, h, q⟩
abbrev rvTupText : List V → Hp → VK → Prop := fun xs H Q => ∃ z : Str, xs = [.str z] ∧ z.length ≤ sizeLine ∧ ∀ l, H l = none → Q (.ref l) (upd H l (.tup (sgV z)))
theorem e_tupText [Jx] (hc : X.calm = true) (hg : Gl X "tuple") (hm : X.mg "tuple" = none) (ha : PA2 X [e] tl tl2) (hv : bootBuiltins "tuple" = some (.type "tuple") := by decide +kernel) (he : starEach [e] X.env = (false, eval e X.env) :: starEach [] X.env := by rfl) : PE2 X (.Call (.Name "tuple" p) [e] [] pos) (tCB rvTupText tl) (dCB dTupText tl2) :=
  e_cty (call_tupText hc) (fun xs μ Q2 q I H vs hA r Q k => by
    obtain ⟨z, rfl, h, q⟩ := q
    obtain ⟨v, rfl, e⟩ := r.one_inv
    cases (show v = _ from e)
    exact ⟨z, rfl, h, fun l hl => k _ _ _ _ _ q (hA.laid hl) (Kp.laid hl (hA.noI hl)) ⟨l, sgV z, rfl, .inl (.inl upd_same), rpA_signs _⟩⟩) hg hm hv ha (he := he)
/-- {} -/
def dDNew : TE2 := fun _ μ Q => ∀ p, μ p = none → Q (.adr p) (mup μ p (.dk []))
theorem w_dnew (q : ∀ p, μ p = none → Q (.adr p) (mup μ p (.dk []))) : dDNew ρ μ Q := q
theorem e_dnew [Jx] : PE2 X (.Dict [] [] pos) tDNewK dDNew := ⟨pe_dnewK, fun ρ μ Q2 q I σ H hA hS Q g p hp => g _ _ _ _ _ (q p (hA.noM hp)) (hA.got hp ⟨[], rfl, .nil⟩) (Kp.got hp) rfl⟩
theorem t_chain [Jx] {op op' : CmpOp} {r r' : R2} {r2 r2' : DR2} (ho : OpR X (compareOp op) r) (ho' : OpR X (compareOp op') r') (hr : RR X.K r r2) (hr' : RR X.K r' r2') (ha : PE2 X a ta ta2) (hb : PE2 X b tb tb2) (hc : PE2 X c tc tc2)
    (hm : lastMarks [op, op'] [b, c] = false := by with_unfolding_all rfl) : PT2 X (.Compare a [op, op'] [b, c] pos) (tTest (tChain r r' ta tb tc)) (dVal (dChain r2 r2' ta2 tb2 tc2)) :=
  ⟨pt_chain ho ho' ha.pe hb.pe hc.pe hm, fun ρ μ T F q I σ H hA hS Q g1 g2 => re_chain hr hr' ha.re hb.re hc.re ρ μ _ q I σ H hA hS _ fun d μ' v I' H' q' a' k' r' => re_val a' r' q' (g1.past k') (g2.past k')⟩
/-- what holds behind a statement, told once for all its ways -/
theorem w_seqK {ts2 tz2 : TS2} {n b c : Env2 → Mu → Prop} {r : DK} (M : Env2 → Mu → Prop) (hM : ∀ ρ μ, M ρ μ → tz2 ⟨n, r, b, c⟩ ρ μ) (h : ∀ T : Env2 → Mu → Prop, (∀ ρ μ, M ρ μ → T ρ μ) → ts2 ⟨Cl T, r, b, c⟩ ρ μ) : dSeqC ts2 tz2 ⟨n, r, b, c⟩ ρ μ := w_seqC (h _ hM)
/-- texts: <= -/
def dLeS : DR2 := fun x y μ Q => ∃ i j, x = .str i ∧ y = .str j ∧ Q (.bl (!decide (j.cps.toList < i.cps.toList))) μ
theorem w_leS {i j : Str} (q : Q (.bl (!decide (j.cps.toList < i.cps.toList))) μ) : dLeS (.str i) (.str j) μ Q := ⟨i, j, rfl, rfl, q⟩
theorem rr_leS [Jx] : RR K (fun x y H Q => ∃ i j, x = .str i ∧ y = .str j ∧ Q (.bl (!decide (j.cps.toList < i.cps.toList))) H) dLeS := fun x y μ Q2 q I H vx vy hA rx ry Q k => by
  obtain ⟨i, j, rfl, rfl, q⟩ := q
  exact ⟨i, j, rx, ry, k _ _ _ _ _ q hA Kp.refl rfl⟩
end
end
end Y

set_option Elab.async false
set_option linter.all false
set_option maxRecDepth 100000
set_option maxHeartbeats 4000000
namespace Y
open PySem PySem.Spec PyProof.Rows L2
/-! where a token is out: replace of written texts -/
structure PEL2 [Jx] (X : Cx) (e : Expr) (te : TE) (t : TE2) : Prop where
  pe : PET X e te
  re : RE X.K te t
section
variable {X : Cx} {K : PySem.W.Frag} {a b c e o i : Expr} {ta tb tc te to ti : TE} {ta2 tb2 tc2 te2 to2 ti2 : TE2} {pos apos cpos p tpos : Pos} {x y z : Str} {j k : Nat} {c0 c1 : Pos}
variable {ρ : Env2} {μ : Mu} {Q : DK}
theorem late [Jx] (h : PE2 X e te te2) : PEL2 X e te te2 := ⟨CwR.PET.of h.pe, h.re⟩
theorem l_fz [Jx] (h : PEL2 X e te te2) : PEL2 X e te (dFz te2) := ⟨h.pe, fun ρ μ Q2 q I σ H hA hS Q g => h.re ρ μ _ q I σ H hA hS _ fun d μ1 v I1 H1 q1 a1 k1 r1 => by
  obtain ⟨p, ds, rfl, hp, q1⟩ := q1
  obtain ⟨hI, ho, h1, vs, rfl, h2⟩ := a1.own p _ hp
  exact g _ _ _ _ _ q1 (a1.frz hp h1) (k1.trans (Kp.frz hp hI)) ⟨p, vs, r1, upd_same, h2.mono (Exx.new hI)⟩⟩
def dReplC (to : TE2) (y z : Str) : TE2 := fun ρ μ Q => to ρ μ fun d μ1 => ∃ x, d = .str x ∧ x.length + (x.length + 1) * z.length ≤ 16777216 ∧ Q (.str (Txt.replace x y z)) μ1
def dReplK (y z : Str) (Q : DK) : DK := fun d μ1 => ∃ x, d = .str x ∧ x.length + (x.length + 1) * z.length ≤ 16777216 ∧ Q (.str (Txt.replace x y z)) μ1
theorem w_repl (h : to2 ρ μ (dReplK y z Q)) : dReplC to2 y z ρ μ Q := h
theorem w_replK (h : x.length + (x.length + 1) * z.length ≤ 16777216) (q : Q (.str (Txt.replace x y z)) μ) : dReplK y z Q (.str x) μ := ⟨x, rfl, h, q⟩
theorem l_replace [Jx] (ho : PE2 X o to to2) (hyz : (y == z) = false := by decide +kernel)
    (hst : starEach [.Constant (.str y) j c0, .Constant (.str z) k c1] X.env = [(false, eval (.Constant (.str y) j c0) X.env), (false, eval (.Constant (.str z) k c1) X.env)] := by rfl)
    (hbase : attributeBase o "replace" X.env (eval o X.env) = eval o X.env := by rfl) (hline : (apos.endLine == pos.line) = true := by rfl) :
    PEL2 X (.Call (.Attribute o "replace" apos) [.Constant (.str y) j c0, .Constant (.str z) k c1] [] pos) (CwR.tReplC to y z) (dReplC to2 y z) := ⟨CwR.pet_replC ho.pe hyz hst hbase hline, fun ρ μ Q2 q I σ H hA hS Q g => ho.re ρ μ _ q I σ H hA hS _ fun d μ1 v I1 H1 q1 a1 k1 r1 => by
  obtain ⟨x, rfl, h, q⟩ := q1
  exact ⟨x, r1, h, g _ _ _ _ _ q a1 k1 rfl⟩⟩
theorem pet_m1 {id : String} {name : Str} {r : V → List V → Hp → VK → Prop} (slot : Slot "str" name id) (ty : typeOf (.builtin id) = pure (.type "method_descriptor")) (rule : MtR X id r) (ho : PET X o to) (he : PE X e te)
    (hs : starEach [e] X.env = [(false, eval e X.env)] := by rfl) (hbase : attributeBase o name X.env (eval o X.env) = eval o X.env := by rfl) (hline : (apos.endLine == pos.line) = true := by rfl) :
    PET X (.Call (.Attribute o name apos) [e] [] pos) (tM1 r to te) := by
  intro pins s σ H Q h0 I h
  refine PySem.Call_method1 hbase hs hline (thn (ho pins s σ H _ h0 I h) fun v s1 ⟨x, H1, I1, r1, q1⟩ => ?_)
  obtain ⟨⟨a, rfl⟩, q1⟩ := q1
  obtain ⟨t, rfl⟩ := _root_.id r1
  refine ⟨"str", _, PySem.F.plainAttrs_str, slot, ty, typeIs_str _ _ _, (fun _ e => nomatch e), Calls.callWith_builtin rfl (Calls.evalArgs_plain (Calls.spliced_cons ?_))⟩
  exact thn (he.run pins s1 σ H1 _ I1 q1) fun u s2 ⟨y, H2, I2, r2, q2⟩ => Calls.spliced_nil (rule pins s2 σ H2 _ [y] _ [u] Q I2 r1 (.cons r2 .nil) q2)
theorem pe_m1L {id : String} {name : Str} {r : V → List V → Hp → VK → Prop} (slot : Slot "str" name id) (ty : typeOf (.builtin id) = pure (.type "method_descriptor")) (rule : MtR X id r) (he : PET X e te)
    (hs : starEach [e] X.env = [(false, eval e X.env)] := by rfl) (hbase : attributeBase (.Constant (.str z) j c0) name X.env (eval (.Constant (.str z) j c0) X.env) = eval (.Constant (.str z) j c0) X.env := by rfl) (hline : (apos.endLine == pos.line) = true := by rfl) :
    PE X (.Call (.Attribute (.Constant (.str z) j c0) name apos) [e] [] pos) (tM1 r (tC (.str z)) te) := by
  refine ⟨fun pins s σ H Q I h => ?_⟩
  refine PySem.Call_method1 hbase hs hline (Calls.Constant_str ?_)
  obtain ⟨_, h⟩ := h
  refine ⟨"str", _, PySem.F.plainAttrs_str, slot, ty, typeIs_str _ _ _, (fun _ e => nomatch e), Calls.callWith_builtin rfl (Calls.evalArgs_plain (Calls.spliced_cons ?_))⟩
  exact thn (he pins _ σ H _ (by show 1 ≤ s.toks + 1; omega) (I.tok _) h) fun u s2 ⟨y, H2, I2, r2, q2⟩ => Calls.spliced_nil (rule pins s2 σ H2 (.str z) [y] _ [u] Q I2 ⟨_, rfl⟩ (.cons r2 .nil) q2)
theorem rr_split [Jx] : ∀ (x y : D) (μ : Mu) (Q2 : DK), dSplit x y μ Q2 → ∀ (I H : Hp) (v u : V), At K μ I H → Rp K I x v → Rp K I y u → ∀ Q : VK, Go K I μ H Q2 Q → rvSplit v [u] H Q := fun x y μ Q2 q I H v u hA rx ry Q k => by
    obtain ⟨a, b, rfl, rfl, h1, h2, q⟩ := q
    refine ⟨a, b, rx, by rw [show u = _ from ry], h1, h2, fun p hp => ?_⟩
    exact k _ _ _ _ _ (q p (hA.noM hp)) (hA.got hp ⟨_, rfl, RpA.strs _⟩) (Kp.got hp) rfl
theorem rr_join [Jx] : ∀ (x y : D) (μ : Mu) (Q2 : DK), dJoin x y μ Q2 → ∀ (I H : Hp) (v u : V), At K μ I H → Rp K I x v → Rp K I y u → ∀ Q : VK, Go K I μ H Q2 Q → rvJoin K v [u] H Q := fun x y μ Q2 q I H v u hA rx ry Q k => by
    obtain ⟨a, ds, ys, rfl, h1, h2, z, q⟩ := q
    obtain ⟨p, vs, rfl, h3, h4⟩ := asS_at hA ry h1
    rw [strsOf_ok h2] at h4
    rw [h4.strs_inv] at h3
    exact ⟨a, p, ys, rx, rfl, h3, z, k _ _ _ _ _ q hA Kp.refl rfl⟩
theorem l_split [Jx] (ho : PEL2 X o to to2) (he : PE2 X e te te2) (hs : starEach [e] X.env = [(false, eval e X.env)] := by rfl) (hbase : attributeBase o "split" X.env (eval o X.env) = eval o X.env := by rfl) (hline : (apos.endLine == pos.line) = true := by rfl) :
    PEL2 X (.Call (.Attribute o "split" apos) [e] [] pos) (tM1 rvSplit to te) (dM1 dSplit to2 te2) := ⟨pet_m1 PySem.F.slot_str_split PySem.F.type_str_split mt_split ho.pe he.pe hs hbase hline, re_m1 rr_split ho.re he.re⟩
theorem e_joinL [Jx] (he : PEL2 X e te te2) (hs : starEach [e] X.env = [(false, eval e X.env)] := by rfl) (hbase : attributeBase (.Constant (.str z) j c0) "join" X.env (eval (.Constant (.str z) j c0) X.env) = eval (.Constant (.str z) j c0) X.env := by rfl) (hline : (apos.endLine == pos.line) = true := by rfl) :
    PE2 X (.Call (.Attribute (.Constant (.str z) j c0) "join" apos) [e] [] pos) (tM1 (rvJoin X.K) (tC (.str z)) te) (dM1 dJoin (dC (.str z)) te2) := ⟨pe_m1L PySem.F.slot_str_join PySem.F.type_str_join mt_join he.pe hs hbase hline, re_m1 rr_join (e_str (X := X) (x := z) (j := j) (pos := c0)).re he.re⟩
end
end Y

set_option Elab.async false
set_option linter.all false
set_option maxRecDepth 100000
set_option maxHeartbeats 4000000
namespace Y
open PySem PySem.Spec PyProof.Rows L2
/-! own classes: fields, methods, new instances; a def that calls itself -/
def setF (f : Str) (v : D) : List (Str × D) → List (Str × D)
  | [] => [(f, v)]
  | (g, x) :: r => if g = f then (g, v) :: r else (g, x) :: setF f v r
/-- a class of the program, as it stands -/
structure Kl (K : PySem.W.Frag) (mg : Str → Option Value) (x : Str) (C : Addr) : Prop where
  cl : Cls K C
  mg : mg x = some (.ref C)
  makes : PySem.W.makesIn K C = true
  kp : PySem.W.keepIn K (.ref C) = true
/-- a method as it stands behind the top -/
structure Tm (K : PySem.W.Frag) (C : Addr) (m q : Str) (st : Stmt) (ps : List Str) : Prop where
  of : ∃ f fd, Fun K m q st f fd ∧ Meth K C m f ∧ Binds K fd ps []
/-- a method that keeps a promise, and raises nothing -/
structure Dm (P : Program) (w : World) (K : PySem.W.Frag) (mg : Str → Option Value) (base : Heap) (C : Addr) (m : Str) (k : Nat) (ps : List Str) (sp : Sp2) : Prop where
  of : ∃ f fd, FnOk P w K mg base CX0 k f fd ps (toSp K sp) ∧ Meth K C m f ∧ Binds K fd ps []
section
variable {K : PySem.W.Frag} {I I' : Hp}
theorem RpF.put (f : Str) {d : D} {v : V} (r : Rp K I d v) : ∀ {fs : List (Str × D)} {hfs : List (Str × V)}, RpF K I fs hfs → RpF K I (setF f d fs) (putF f v hfs)
  | _, _, .nil => .cons ⟨rfl, r⟩ .nil
  | (g, x) :: fs, (g', y) :: hfs, .cons h t => by
    obtain ⟨h1, h2⟩ := h
    have h1 : g = g' := h1
    subst h1
    unfold setF putF
    by_cases e : g = f
    · rw [if_pos e, if_pos e]; exact .cons ⟨rfl, r⟩ t
    · rw [if_neg e, if_neg e]; exact .cons ⟨rfl, h2⟩ (RpF.put f r t)
theorem RpF.look (f : Str) : ∀ {fs : List (Str × D)} {hfs : List (Str × V)} {d : D}, RpF K I fs hfs → fs.lookup f = some d → ∃ v, hfs.lookup f = some v ∧ Rp K I d v
  | _, _, _, .nil, e => by cases e
  | (g, x) :: fs, (g', y) :: hfs, d, .cons h t, e => by
    obtain ⟨h1, h2⟩ := h
    have h1 : g = g' := h1
    subst h1
    rw [List.lookup_cons] at e ⊢
    cases q : f == g with
    | true => rw [q] at e; cases e; exact ⟨y, rfl, h2⟩
    | false => rw [q] at e; exact RpF.look f t e
theorem RpF.no (f : Str) : ∀ {fs : List (Str × D)} {hfs : List (Str × V)}, RpF K I fs hfs → fs.lookup f = none → hfs.lookup f = none
  | _, _, .nil, e => rfl
  | (g, x) :: fs, (g', y) :: hfs, .cons h t, e => by
    obtain ⟨h1, h2⟩ := h
    have h1 : g = g' := h1
    subst h1
    rw [List.lookup_cons] at e ⊢
    cases q : f == g with
    | true => rw [q] at e; cases e
    | false => rw [q] at e; exact RpF.no f t e
theorem RpF.len : ∀ {fs : List (Str × D)} {hfs : List (Str × V)}, RpF K I fs hfs → hfs.length = fs.length
  | _, _, .nil => rfl
  | _ :: _, _ :: _, .cons _ t => by rw [List.length_cons, List.length_cons, RpF.len t]
theorem RpF.zip : ∀ {ns : List Str} {ds : List D} {vs : List V}, ns.length = ds.length → RpA K I ds vs → RpF K I (ns.zip ds) (ns.zip vs)
  | [], _, _, _, _ => .nil
  | n :: ns, [], _, h, _ => by cases h
  | n :: ns, d :: ds, _, h, r => by
    obtain ⟨v, vs, rfl, r1, r2⟩ := r
    exact .cons ⟨rfl, r1⟩ (RpF.zip (Nat.succ.inj h) r2)
theorem RpF.unzip : ∀ {fs : List (Str × D)} {hfs : List (Str × V)}, RpF K I fs hfs → hfs = (fs.map (·.1)).zip (hfs.map (·.2)) ∧ RpA K I (fs.map (·.2)) (hfs.map (·.2))
  | _, _, .nil => ⟨rfl, rfl⟩
  | (g, x) :: fs, (g', y) :: hfs, .cons h t => by
    obtain ⟨h1, h2⟩ := h
    have h1 : g = g' := h1
    subst h1
    obtain ⟨e1, e2⟩ := RpF.unzip t
    exact ⟨by rw [List.map_cons, List.map_cons, List.zip_cons_cons, ← e1], _, _, rfl, h2, e2⟩
end
/-- the fields of an instance of C: owned, or one that stays -/
def fldsM (C : Addr) : Option MO → Option (List (Str × D))
  | some (.ins C' fs) => if C' = C then some fs else none
  | _ => none
def fldsOf (C : Addr) (μ : Mu) : D → Option (List (Str × D))
  | .adr p => fldsM C (μ p)
  | .obj C' ns ds => if C' = C ∧ ns.length = ds.length then some (ns.zip ds) else none
  | _ => none
theorem fldsM_inv {C : Addr} {m : Option MO} {fs : List (Str × D)} (h : fldsM C m = some fs) : m = some (.ins C fs) := by
  cases m with
  | none => cases h
  | some m =>
    cases m with
    | ins C' fs' =>
      have h' : (if C' = C then some fs' else none) = some fs := h
      by_cases e : C' = C
      · rw [if_pos e] at h'; cases h'; subst e; rfl
      · rw [if_neg e] at h'; cases h'
    | lst _ => cases h
    | dk _ => cases h
    | dn _ _ _ => cases h
    | exc _ _ => cases h
    | raw _ => cases h
theorem fldsOf_adr {C p : Addr} {μ : Mu} {fs : List (Str × D)} (h : μ p = some (.ins C fs)) : fldsOf C μ (.adr p) = some fs := by
  show fldsM C (μ p) = some fs
  rw [h]; exact if_pos rfl
theorem fldsOf_obj {C : Addr} {μ : Mu} {ns : List Str} {ds : List D} (h : ns.length = ds.length) : fldsOf C μ (.obj C ns ds) = some (ns.zip ds) := if_pos ⟨rfl, h⟩
theorem fldsOf_at [Jx] {K : PySem.W.Frag} {C : Addr} {μ : Mu} {I H : Hp} {d : D} {v : V} {fs : List (Str × D)} (a : At K μ I H) (r : Rp K I d v) (h : fldsOf C μ d = some fs) : ∃ p dx hfs, v = .ref p ∧ H p = some (.ins C dx hfs) ∧ RpF K I fs hfs := by
  cases d with
  | adr p =>
    obtain ⟨_, o, ho, dx, hfs, rfl, hr⟩ := a.own p _ (fldsM_inv h)
    exact ⟨p, dx, hfs, r, ho, hr⟩
  | obj C' ns ds =>
    have h' : (if C' = C ∧ ns.length = ds.length then some (ns.zip ds) else none) = some fs := h
    by_cases e : C' = C ∧ ns.length = ds.length
    · rw [if_pos e] at h'
      cases h'
      obtain ⟨e1, e2⟩ := e
      subst e1
      obtain ⟨p, dx, vs, rfl, hp, _, hr⟩ := r
      exact ⟨p, dx, _, rfl, a.sub p _ hp, RpF.zip e2 hr⟩
    · rw [if_neg e] at h'; cases h'
  | non => cases h
  | bl _ => cases h
  | int _ => cases h
  | str _ => cases h
  | ty _ => cases h
  | tup _ => cases h
  | lst _ => cases h
  | scr _ => cases h
  | tun _ => cases h
section
variable {X : Cx} {K : PySem.W.Frag} {a b c e o : Expr} {es rest : List Expr} {ta tb tc te to : TE} {ta2 tb2 tc2 te2 to2 : TE2} {pos apos cpos p tpos : Pos} {tl : TA} {tl2 : TA2} {x f m : Str} {C : Addr}
variable {ρ : Env2} {μ : Mu} {Q : DK} {k j : Nat} {ps : List Str} {sp : Sp2}
/-! ### fields -/
def dFld (C : Addr) (f : Str) (ta : TE2) : TE2 := fun ρ μ Q => ta ρ μ fun d μ1 => ∃ fs v, fldsOf C μ1 d = some fs ∧ fs.lookup f = some v ∧ Q v μ1
def dFldK (C : Addr) (f : Str) (Q : DK) : DK := fun d μ1 => ∃ fs v, fldsOf C μ1 d = some fs ∧ fs.lookup f = some v ∧ Q v μ1
theorem w_fld (h : ta2 ρ μ (dFldK C f Q)) : dFld C f ta2 ρ μ Q := h
theorem w_fldK {d v : D} {fs : List (Str × D)} (h : fldsOf C μ d = some fs) (h2 : fs.lookup f = some v) (q : Q v μ) : dFldK C f Q d μ := ⟨fs, v, h, h2, q⟩
theorem e_fld [Jx] (c : Cls X.K C) (n : NoAttr X.K C f) (he : PE2 X e ta ta2) (hb : attributeBase e f X.env (eval e X.env) = eval e X.env := by rfl) : PE2 X (.Attribute e f pos) (tFld X.K ta f) (dFld C f ta2) :=
  ⟨pe_fld he.pe hb, fun ρ μ Q2 q I σ H hA hS Q g => he.re ρ μ _ q I σ H hA hS _ fun d μ1 v I1 H1 q1 a1 k1 r1 => by
    obtain ⟨fs, z, h1, h2, q1⟩ := q1
    obtain ⟨p, dx, hfs, rfl, hp, hr⟩ := fldsOf_at a1 r1 h1
    obtain ⟨y, hy, ry⟩ := hr.look f h2
    exact ⟨p, C, dx, hfs, y, rfl, hp, c, n, hy, g _ _ _ _ _ q1 a1 k1 ry⟩⟩
/-- e.f = value, of an owned instance -/
def dPutF (C : Addr) (f : Str) (ta tv : TE2) : TS2 := fun D ρ μ => tv ρ μ fun v μ1 => ta ρ μ1 fun d μ2 => ∃ p fs, d = .adr p ∧ μ2 p = some (.ins C fs) ∧ fs.length < 1000 ∧ D.nx ρ (mup μ2 p (.ins C (setF f v fs)))
def dPutFK (C : Addr) (f : Str) (v : D) (N : Mu → Prop) : DK := fun d μ2 => ∃ p fs, d = .adr p ∧ μ2 p = some (.ins C fs) ∧ fs.length < 1000 ∧ N (mup μ2 p (.ins C (setF f v fs)))
theorem w_putF {n b c : Env2 → Mu → Prop} {r : DK} (h : tb2 ρ μ fun v μ1 => ta2 ρ μ1 (dPutFK C f v (n ρ))) : dPutF C f ta2 tb2 ⟨n, r, b, c⟩ ρ μ := h
theorem w_putFK {p : Addr} {v : D} {fs fs' : List (Str × D)} {N : Mu → Prop} (h : μ p = some (.ins C fs)) (h2 : setF f v fs = fs') (l : fs.length < 1000) (q : N (mup μ p (.ins C fs'))) : dPutFK C f v N (.adr p) μ := ⟨p, fs, rfl, h, l, by rw [h2]; exact q⟩
theorem setF_nil {v : D} : setF f v [] = [(f, v)] := rfl
theorem setF_hit {v x : D} {r : List (Str × D)} : setF f v ((f, x) :: r) = (f, v) :: r := if_pos rfl
theorem setF_miss {g : Str} {v x : D} {r r' : List (Str × D)} (h : (g == f) = false) (h2 : setF f v r = r') : setF f v ((g, x) :: r) = (g, x) :: r' := by
  rw [← h2]; exact if_neg fun z => by rw [z, beq_self_eq_true] at h; cases h
theorem lk_hit {v : D} {r : List (Str × D)} : List.lookup f ((f, v) :: r) = some v := by simp [List.lookup]
theorem lk_miss {g : Str} {v x : D} {r : List (Str × D)} (h : (f == g) = false) (h2 : List.lookup f r = some v) : List.lookup f ((g, x) :: r) = some v := by
  rw [List.lookup_cons, h]; exact h2
theorem lk_nil : List.lookup f ([] : List (Str × D)) = none := rfl
theorem lk_no {g : Str} {x : D} {r : List (Str × D)} (h : (f == g) = false) (h2 : List.lookup f r = none) : List.lookup f ((g, x) :: r) = none := by
  rw [List.lookup_cons, h]; exact h2
theorem s_putF [Jx] {value : Expr} {tv : TE} {tv2 : TE2} {pos' : Pos} (c : Cls X.K C) (n : NoAttr X.K C f) (ho : PE2 X o ta ta2) (hv : PE2 X value tv tv2) (hs : swapsWith value (some (.Attribute o f pos')) pos.line X.env = pure false := by rfl) :
    PS2 X (.Assign [.Attribute o f pos'] value pos) (sFld X.K ta tv f) (dPutF C f ta2 tv2) :=
  ⟨ps_fld ho.pe hv.pe hs, fun D2 ρ μ q I σ H hA hS D g => hv.re ρ μ _ q I σ H hA hS _ fun v μ1 u I1 H1 q1 a1 k1 r1 => ho.re ρ μ1 _ q1 I1 σ H1 a1 (hS.mono k1.ex) _ fun d μ2 z I2 H2 q2 a2 k2 r2 => by
    obtain ⟨p, fs, rfl, hp, l, q2⟩ := q2
    cases (show z = _ from r2)
    obtain ⟨_, ob, ho', dx, hfs, rfl, hr⟩ := a2.own p _ hp
    exact ⟨p, C, dx, hfs, rfl, ho', c, n, by rw [hr.len]; exact l, g.nx _ _ _ _ _ q2 (a2.put hp ⟨dx, _, rfl, hr.put f (r1.mono k2.ex)⟩) (hS.mono (k1.trans k2).ex) ((k1.trans k2).trans (Kp.put hp))⟩⟩
/-! ### methods -/
def dMeth (C : Addr) (m : Str) (sp : Sp2) (to : TE2) (t : TA2) : TE2 := fun ρ μ Q => to ρ μ fun d μ1 => (∃ fs, fldsOf C μ1 d = some fs ∧ fs.lookup m = none) ∧ t ρ μ1 fun ds μ2 => sp (d :: ds) μ2 Q NoX
def dMethK (C : Addr) (m : Str) (N : Prop) (d : D) (μ1 : Mu) : Prop := (∃ fs, fldsOf C μ1 d = some fs ∧ fs.lookup m = none) ∧ N
theorem w_meth (h : to2 ρ μ fun d μ1 => dMethK C m (tl2 ρ μ1 fun ds μ2 => sp (d :: ds) μ2 Q NoX) d μ1) : dMeth C m sp to2 tl2 ρ μ Q := h
theorem w_methK {N : Prop} {d : D} {fs : List (Str × D)} (h : fldsOf C μ d = some fs) (h2 : fs.lookup m = none) (q : N) : dMethK C m N d μ := ⟨⟨fs, h, h2⟩, q⟩
theorem re_meth [Jx] {E : XK} (ho : RE K to to2) (ht : RA K tl tl2) : RE K (tMeth C m (toSp K sp) [] E to tl) (dMeth C m sp to2 tl2) := fun ρ μ Q2 q I σ H hA hS Q g => ho ρ μ _ q I σ H hA hS _ fun d μ1 v I1 H1 q1 a1 k1 r1 => by
  obtain ⟨⟨fs, h1, h2⟩, q1⟩ := q1
  obtain ⟨p, dx, hfs, rfl, hp, hr⟩ := fldsOf_at a1 r1 h1
  refine ⟨p, dx, hfs, rfl, hp, hr.no m h2, ht ρ μ1 _ q1 I1 σ H1 a1 (hS.mono k1.ex) _ fun ds μ2 vs I2 H2 q2 a2 k2 r2 => ?_⟩
  rw [List.append_nil]
  exact ⟨d :: ds, μ2, I2, Q2, NoX, a2.toAt0, ⟨_, _, rfl, r1.mono k2.ex, r2⟩, q2, (g.past (k1.trans k2)).low a2, goX_no⟩
theorem e_meth [Jx] {pl : Sem Bool} (F : Dm X.prog X.w X.K X.mg X.base C m j ps sp) (hr : Room k X.A) (c : Cls X.K C) (ho : PE2 X o to to2) (ha : PA2 X (e :: es) tl tl2) (hjk : j ≤ k := by first | decide | omega)
    (hst : starEach (e :: es) X.env = (false, eval e X.env) :: starEach es X.env := by rfl) (hpl : (backTo pos (starEach es X.env)).any (·.1) = false := by rfl)
    (ht : eval (.Call (.Attribute o m apos) (e :: es) [] pos) X.env = (do
      let ov ← eval o X.env
      standAt apos.atName
      let (f, first) ← holding [ov] (getMethod ov m pl)
      callWith pos f first (backTo pos (starEach (e :: es) X.env)) (backToKw pos (keywordEach [] X.env))) := by rfl) :
    PE2 X (.Call (.Attribute o m apos) (e :: es) [] pos) (tMeth C m (toSp X.K sp) [] E0 to tl) (dMeth C m sp to2 tl2) := by
  obtain ⟨f, fd, F, hm, hb⟩ := F.of
  exact ⟨pe_meth ho.pe c hm F (hr.mono hjk) hb .nil pass0 ha.pa hst hpl ht, re_meth ho.re ha.re⟩
theorem e_meth0 [Jx] {pl : Sem Bool} (F : Dm X.prog X.w X.K X.mg X.base C m j ps sp) (hr : Room k X.A) (c : Cls X.K C) (ho : PE2 X o to to2) (hjk : j ≤ k := by first | decide | omega)
    (ht : eval (.Call (.Attribute o m apos) [] [] pos) X.env = (do
      let ov ← eval o X.env
      standAt apos.atName
      let (f, first) ← holding [ov] (getMethod ov m pl)
      callWith pos f first (backTo pos (starEach [] X.env)) (backToKw pos (keywordEach [] X.env))) := by rfl) :
    PE2 X (.Call (.Attribute o m apos) [] [] pos) (tMeth C m (toSp X.K sp) [] E0 to tNil) (dMeth C m sp to2 dNil) := by
  obtain ⟨f, fd, F, hm, hb⟩ := F.of
  exact ⟨pe_meth0 ho.pe c hm F (hr.mono hjk) hb .nil pass0 ht, re_meth ho.re (a_nil (X := X)).re⟩
/-! ### new instances -/
def dMake (C : Addr) (sp : Sp2) (t : TA2) : TE2 := fun ρ μ Q => t ρ μ fun ds μ1 => ∀ p, μ1 p = none → sp (.adr p :: ds) (mup μ1 p (.ins C [])) (fun d μ2 => d = .non ∧ Q (.adr p) μ2) NoX
def dMakeK (C : Addr) (sp : Sp2) (Q : DK) : List D → Mu → Prop := fun ds μ1 => ∀ p, μ1 p = none → sp (.adr p :: ds) (mup μ1 p (.ins C [])) (fun d μ2 => d = .non ∧ Q (.adr p) μ2) NoX
theorem w_make (h : tl2 ρ μ (dMakeK C sp Q)) : dMake C sp tl2 ρ μ Q := h
theorem re_make [Jx] {E : XK} (ht : RA K tl tl2) : RE K (tMake C (toSp K sp) [] E tl) (dMake C sp tl2) := fun ρ μ Q2 q I σ H hA hS Q g => ht ρ μ _ q I σ H hA hS _ fun ds μ1 vs I1 H1 q1 a1 k1 r1 => by
  intro x dx hx hdx hne
  have hI : I1 x = none := a1.noI hx
  have hId : I1 dx = none := a1.noI hdx
  have hM : μ1 x = none := a1.noM hx
  have hMd : μ1 dx = none := a1.noM hdx
  have hxd : x ≠ dx := fun z => hne z.symm
  have a2 : At0 K μ1 I1 (upd H1 dx (.own x)) := ⟨fun b u e => by rw [upd_ne (ne_of_none e hId)]; exact a1.sub b u e, fun b n e => by
    obtain ⟨h1, u, h2, h3⟩ := a1.own b n e
    exact ⟨h1, u, by rw [upd_ne (ne_of_none h2 hdx)]; exact h2, h3⟩⟩
  have k2 : Kp I1 μ1 H1 I1 μ1 (upd H1 dx (.own x)) := ⟨Exx.refl _, fun b u e h1 h2 => ⟨by rw [upd_ne (ne_of_none e hdx)]; exact e, h1, h2⟩⟩
  have hx2 : upd H1 dx (.own x) x = none := by rw [upd_ne hxd]; exact hx
  have a3 := a2.got (m := .ins C []) hx2 ⟨dx, [], rfl, .nil⟩
  have k3 : Kp I1 μ1 (upd H1 dx (.own x)) I1 (mup μ1 x (.ins C [])) (upd (upd H1 dx (.own x)) x (.ins C dx [])) := Kp.got hx2
  rw [List.append_nil]
  refine ⟨.adr x :: ds, _, I1, fun d μ2 => d = .non ∧ Q2 (.adr x) μ2, NoX, a3, ⟨_, _, rfl, rfl, r1⟩, q1 x hM, ?_, goX_no⟩
  rintro d μ' v I' H' ⟨rfl, q⟩ a k r
  have kz := k1.trans ((k2.trans k3).trans k)
  exact ⟨r, g _ _ _ _ _ q (a.up hA kz) kz rfl⟩
theorem mk_of (KC : Kl X.K X.mg x C) (F : Dm X.prog X.w X.K X.mg X.base C "__init__" j ps sp) : ∃ f fd, FnOk X.prog X.w X.K X.mg X.base CX0 j f fd ps (toSp X.K sp) ∧ Mk X.K C f ∧ Binds X.K fd ps [] := by
  obtain ⟨f, fd, F, hm, hb⟩ := F.of
  exact ⟨f, fd, F, ⟨KC.makes, hm.at_, hm.fn, KC.kp⟩, hb⟩
theorem e_make [Jx] (KC : Kl X.K X.mg x C) (F : Dm X.prog X.w X.K X.mg X.base C "__init__" j ps sp) (hr : Room (k + 1) X.A) (hg : Gl X x) (ha : PA2 X (e :: es) tl tl2) (hjk : j ≤ k := by first | decide | omega) (hdb : (x == ("__debug__" : Str)) = false := by decide)
    (he : starEach (e :: es) X.env = (false, eval e X.env) :: starEach es X.env := by rfl) (hpl : (backTo pos (starEach es X.env)).any (·.1) = false := by rfl) : PE2 X (.Call (.Name x p) (e :: es) [] pos) (tMake C (toSp X.K sp) [] E0 tl) (dMake C sp tl2) := by
  obtain ⟨f, fd, F, hm, hb⟩ := mk_of KC F
  exact ⟨pe_make hm F (hr.mono (Nat.succ_le_succ hjk)) hg KC.mg hb .nil pass0 ha.pa hdb he hpl, re_make ha.re⟩
theorem e_make0 [Jx] (KC : Kl X.K X.mg x C) (F : Dm X.prog X.w X.K X.mg X.base C "__init__" j ps sp) (hr : Room (k + 1) X.A) (hg : Gl X x) (hjk : j ≤ k := by first | decide | omega) (hdb : (x == ("__debug__" : Str)) = false := by decide) :
    PE2 X (.Call (.Name x p) [] [] pos) (tMake C (toSp X.K sp) [] E0 tNil) (dMake C sp dNil) := by
  obtain ⟨f, fd, F, hm, hb⟩ := mk_of KC F
  exact ⟨pe_make0 hm F (hr.mono (Nat.succ_le_succ hjk)) hg KC.mg hb .nil pass0 hdb, re_make (a_nil (X := X)).re⟩
/-- an owned instance stays from now on -/
def dFzO (C : Addr) (t : TE2) : TE2 := fun ρ μ Q => t ρ μ fun d μ1 => ∃ p fs, d = .adr p ∧ μ1 p = some (.ins C fs) ∧ Q (.obj C (fs.map (·.1)) (fs.map (·.2))) (mdel μ1 p)
def dFzOK (C : Addr) (Q : DK) : DK := fun d μ1 => ∃ p fs, d = .adr p ∧ μ1 p = some (.ins C fs) ∧ Q (.obj C (fs.map (·.1)) (fs.map (·.2))) (mdel μ1 p)
theorem w_fzO (h : te2 ρ μ (dFzOK C Q)) : dFzO C te2 ρ μ Q := h
theorem w_fzOK {p : Addr} {fs : List (Str × D)} (h : μ p = some (.ins C fs)) (q : Q (.obj C (fs.map (·.1)) (fs.map (·.2))) (mdel μ p)) : dFzOK C Q (.adr p) μ := ⟨p, fs, rfl, h, q⟩
theorem e_fzO [Jx] (h : PE2 X e te te2) : PE2 X e te (dFzO C te2) :=
  ⟨h.pe, fun ρ μ Q2 q I σ H hA hS Q g => h.re ρ μ _ q I σ H hA hS _ fun d μ1 v I1 H1 q1 a1 k1 r1 => by
    obtain ⟨p, fs, rfl, hp, q1⟩ := q1
    obtain ⟨hI, ob, ho, dx, hfs, rfl, hr⟩ := a1.own p _ hp
    obtain ⟨e1, e2⟩ := hr.unzip
    refine g _ _ _ _ _ q1 (a1.frz hp ho) (k1.trans (Kp.frz hp hI)) ⟨p, dx, hfs.map (·.2), r1, ?_, ?_, e2.mono (Exx.new hI)⟩
    · rw [upd_same, ← e1]
    · rw [List.length_map, List.length_map]⟩
/-! ### a call whose level is a letter; a def that is not reached -/
theorem e_callR [Jx] (F : Df X.prog X.w X.K X.mg X.base x j ps sp) (hr : Room k X.A) (hg : Gl X x) (hjk : j ≤ k) (ha : PA2 X (e :: es) tl tl2) (hdb : (x == ("__debug__" : Str)) = false := by decide) (he : starEach (e :: es) X.env = (false, eval e X.env) :: starEach es X.env := by rfl) (hpl : (backTo pos (starEach es X.env)).any (·.1) = false := by rfl) :
    PE2 X (.Call (.Name x p) (e :: es) [] pos) (tCall (toSp X.K sp) [] E0 tl) (dCall sp tl2) := e_call F hr hg ha hjk hdb he hpl
theorem Tx.never {P : Program} {w : World} {mg : Str → Option Value} {base : Heap} {st : Stmt} {N : List Str} (T : Tx K mg x st ps) (S : FnScope N ps (defScope st)) : Df P w K mg base x 1 ps (fun _ _ _ _ => False) :=
  T.ok S (fun _ _ _ _ h => h.elim) fun f cdv A outer s H E hr => ⟨fun _ _ _ => False, fun _ _ _ => False, ⟨⟨fun pins s σ H D I h => h.elim⟩, fun D2 ρ μ q => q.elim⟩, fun _ _ _ _ h => h.elim⟩
theorem Tm.ok {P : Program} {w : World} {mg : Str → Option Value} {base : Heap} {q : Str} {st : Stmt} {N : List Str} (T : Tm K C m q st ps) (S : FnScope N ps (defScope st)) (len : ∀ ds μ Q E, sp ds μ Q E → ds.length = ps.length)
    (hb : ∀ [Jx] (f : Addr) (cdv : Value) (A : Around) (outer : List Env) (s : Shared) (H : Hp) (E : XK), Room k (A.deeper (envOfC q (defScope st) s.heap.objs.size f cdv)) →
      ∃ ts t, PSs2 (cxOf CX0 P w K mg base N q (defScope st) f cdv A outer s H E).nox (defBody st) ts t ∧ ∀ ds μ Q E2, sp ds μ Q E2 → t { nx := fun _ μ' => RtC Q .non μ', rt := RtC Q } (start2 N ds) μ) : Dm P w K mg base C m (k + 1) ps sp := by
  obtain ⟨f, fd, F, hm, hbd⟩ := T.of
  refine ⟨f, fd, F.ok S (fun vs H Q E h => ?_) (fun cdv A outer s H vs Q E hr h => ?_), hm, hbd⟩
  · obtain ⟨ds, μ, I, Q2, E2, _, r, hsp, _⟩ := h
    rw [r.length]; exact len _ _ _ _ hsp
  · obtain ⟨ds, μ, I, Q2, E2, hA, r, hsp, g, gx⟩ := h
    letI := Jx.triv
    obtain ⟨ts, t, ht, hq⟩ := hb f cdv A outer s H E hr
    refine ⟨ts, ht.ps, ht.re _ _ μ (hq ds μ Q2 E2 hsp) I _ H hA.triv (slots_start r) _ (@GoS.mk Jx.triv _ _ _ _ _ _ ?_ ?_ (fun _ _ _ _ _ h => h.elim) (fun _ _ _ _ _ h => h.elim))⟩
    · rintro ρ' μ' σ' I' H' ⟨d', μ2, sh, q⟩ a' s' k'
      obtain ⟨I2, a2, k2, r2⟩ := @sh Jx.triv K I' H' .non a' rfl
      exact g d' μ2 _ I2 H' q (@At.toAt0 Jx.triv _ _ _ _ a2) (k'.trans k2) r2
    · rintro d μ' v I' H' ⟨d', μ2, sh, q⟩ a' k' r'
      obtain ⟨I2, a2, k2, r2⟩ := @sh Jx.triv K I' H' v a' r'
      exact g d' μ2 _ I2 H' q (@At.toAt0 Jx.triv _ _ _ _ a2) (k'.trans k2) r2
theorem Tm.never {P : Program} {w : World} {mg : Str → Option Value} {base : Heap} {q : Str} {st : Stmt} {N : List Str} (T : Tm K C m q st ps) (S : FnScope N ps (defScope st)) : Dm P w K mg base C m 1 ps (fun _ _ _ _ => False) :=
  T.ok S (fun _ _ _ _ h => h.elim) fun f cdv A outer s H E hr => ⟨fun _ _ _ => False, fun _ _ _ => False, ⟨⟨fun pins s σ H D I h => h.elim⟩, fun D2 ρ μ q => q.elim⟩, fun _ _ _ _ h => h.elim⟩
end
end Y

set_option Elab.async false
set_option linter.all false
set_option maxRecDepth 100000
set_option maxHeartbeats 4000000
namespace Y
open PySem PySem.Spec PyProof.Rows L2
/-! isinstance(x, (T1, T2, ..)), types that are built in -/
def kitL (t : String) : List String → Option Bool
  | [] => some false
  | c :: cs => match kitB t c with
    | some true => some true
    | some false => kitL t cs
    | none => none
theorem kitL_ok {K : PySem.W.Frag} {t : String} : ∀ {cs : List String} {b : Bool}, kitL t cs = some b → PySem.W.kitAny K (.type t) (cs.map Value.type) = some b
  | [], b, h => by cases h; exact kitAny_nil
  | c :: cs, b, h => by
    unfold kitL at h
    cases q : kitB t c with
    | none => simp only [q] at h; cases h
    | some b1 =>
      cases b1 with
      | true => simp only [q] at h; cases h; exact kitAny_cons (kit_ty q) (fun z => by cases z) (fun _ => rfl)
      | false => simp only [q] at h; exact kitAny_cons (kit_ty q) (fun _ => kitL_ok h) (fun z => by cases z)
theorem kitL_nil {t : String} : kitL t [] = some false := rfl
theorem kitL_hit {t c : String} {cs : List String} (h : kitB t c = some true) : kitL t (c :: cs) = some true := by
  unfold kitL; simp only [h]
theorem kitL_miss {t c : String} {cs : List String} {b : Bool} (h : kitB t c = some false) (h2 : kitL t cs = some b) : kitL t (c :: cs) = some b := by
  unfold kitL; simp only [h]; exact h2
theorem eq_lsts {μ : Mu} {p p2 : Addr} {xs : List D} (s : D.shp 64 (D.lst xs) = true) (h : μ p = some (.lst xs)) (h2 : μ p2 = some (.lst xs)) : EqR μ (.adr p) (.adr p2) true := by
  refine .inr ⟨?_, ?_, ?_⟩
  · rw [rsv_lst h]; exact s
  · rw [rsv_lst h2]; exact s
  · rw [rsv_lst h, rsv_lst h2]; exact eqv_self rfl s
theorem eq_adr_lst {μ : Mu} {p : Addr} {xs : List D} (s : D.shp 64 (D.lst xs) = true) (h : μ p = some (.lst xs)) : EqR μ (.adr p) (.lst xs) true := by
  refine .inr ⟨?_, s, ?_⟩
  · rw [rsv_lst h]; exact s
  · rw [rsv_lst h]; exact eqv_self rfl s
theorem shp_str {n : Nat} {x : Str} : D.shp n (.str x) = PyData.strOk x := by cases n <;> rfl
theorem shp_int {n : Nat} {x : Int} : D.shp n (.int x) = true := by cases n <;> rfl
theorem shp_tup {n : Nat} {ds : List D} : D.shp (n + 1) (.tup ds) = D.shpA n ds := rfl
theorem shp_lst {n : Nat} {ds : List D} : D.shp (n + 1) (.lst ds) = D.shpA n ds := rfl
theorem shpA_cons {n : Nat} {d : D} {ds : List D} : D.shpA n (d :: ds) = (D.shp n d && D.shpA n ds) := by cases n <;> rfl
theorem shpA_nil {n : Nat} : D.shpA n [] = true := by cases n <;> rfl
mutual
theorem shp_mono : ∀ {n : Nat} {d : D}, D.shp n d = true → D.shp (n + 1) d = true
  | n, .non, _ => by cases n <;> rfl
  | n, .bl _, _ => by cases n <;> rfl
  | n, .int _, _ => by cases n <;> rfl
  | n, .str x, h => by rw [shp_str] at h ⊢; exact h
  | 0, .tup ds, h => by cases h
  | 0, .lst ds, h => by cases h
  | n + 1, .tup ds, h => by rw [shp_tup] at h ⊢; exact shpA_mono h
  | n + 1, .lst ds, h => by rw [shp_lst] at h ⊢; exact shpA_mono h
  | n, .ty _, h => by cases n <;> cases h
  | n, .adr _, h => by cases n <;> cases h
  | n, .obj _ _ _, h => by cases n <;> cases h
  | n, .scr _, h => by cases n <;> cases h
  | n, .tun _, h => by cases n <;> cases h
theorem shpA_mono : ∀ {n : Nat} {ds : List D}, D.shpA n ds = true → D.shpA (n + 1) ds = true
  | n, [], _ => shpA_nil
  | n, d :: ds, h => by
    rw [shpA_cons, Bool.and_eq_true] at h
    rw [shpA_cons, shp_mono h.1, shpA_mono h.2]; rfl
end
theorem shp_le {n m : Nat} {d : D} (h : D.shp n d = true) (l : n ≤ m) : D.shp m d = true := by
  obtain ⟨k, rfl⟩ := Nat.le.dest l
  induction k with
  | zero => exact h
  | succ k ih => exact shp_mono (ih (by omega))
theorem tys_paired : ∀ cs : List String, Paired ClsV (cs.map V.ty) (cs.map Value.type)
  | [] => .nil
  | c :: cs => .cons (.ty c) (tys_paired cs)
theorem tys_inv {K : PySem.W.Frag} {I : Hp} : ∀ {cs : List String} {vs : List V}, RpA K I (cs.map D.ty) vs → vs = cs.map V.ty
  | [], _, h => h
  | c :: cs, _, h => by
    obtain ⟨v, r, rfl, h1, h2⟩ := h
    rw [tys_inv h2]
    cases (show v = _ from h1)
    rfl
/-- something new of which nothing is said -/
theorem Kp.extra {μ : Mu} {I H : Hp} {p : Addr} {o : HO} (hp : H p = none) : Kp I μ H I μ (upd H p o) := ⟨Exx.refl _, fun b u e h1 h2 => ⟨by rw [upd_ne (ne_of_none e hp)]; exact e, h1, h2⟩⟩
theorem At0.extra {K : PySem.W.Frag} {μ : Mu} {I H : Hp} {p : Addr} {o : HO} (a : At0 K μ I H) (hp : H p = none) : At0 K μ I (upd H p o) := ⟨fun b u e => by
  rw [upd_ne (ne_of_none e (a.noI hp))]; exact a.sub b u e, fun b n e => by
  obtain ⟨h1, u, h2, h3⟩ := a.own b n e
  exact ⟨h1, u, by rw [upd_ne (ne_of_none h2 hp)]; exact h2, h3⟩⟩
theorem At.extra [Jx] {K : PySem.W.Frag} {μ : Mu} {I H : Hp} {p : Addr} {o : HO} (a : At K μ I H) (hp : H p = none) : At K μ I (upd H p o) := ⟨a.toAt0.extra hp, Jx.step a.j (Kp.extra hp)⟩
section
variable {X : Cx} {K : PySem.W.Frag} {a b c e o : Expr} {es rest : List Expr} {ta tb tc te to : TE} {ta2 tb2 tc2 te2 to2 : TE2} {pos apos cpos p tpos : Pos} {tl : TA} {tl2 : TA2}
variable {ρ : Env2} {μ : Mu} {Q : DK}
def dTys (cs : List String) : TA2 := fun _ μ Q => Q (cs.map D.ty) μ
def dIsiT (cs : List String) (ta : TE2) : TE2 := fun ρ μ Q => ta ρ μ fun d μ1 => ∃ t b, tyD μ1 d = some t ∧ kitL t cs = some b ∧ Q (.bl b) μ1
def dIsiTK (cs : List String) (Q : DK) : DK := fun d μ1 => ∃ t b, tyD μ1 d = some t ∧ kitL t cs = some b ∧ Q (.bl b) μ1
theorem w_isiT {cs : List String} (h : ta2 ρ μ (dIsiTK cs Q)) : dIsiT cs ta2 ρ μ Q := h
theorem w_isiTK {cs : List String} {d : D} {t : String} {b : Bool} (h : tyD μ d = some t) (h2 : kitL t cs = some b) (q : Q (.bl b) μ) : dIsiTK cs Q d μ := ⟨t, b, h, h2, q⟩
theorem e_isiT [Jx] {cs : List String} {x1} (hg : Gl X "isinstance") (hm : X.mg "isinstance" = none) (ha : PE2 X a ta ta2) (hl : PA2 X es tl (dTys cs)) (hz : cs.length ≤ sizeLine := by decide) (hv : bootBuiltins "isinstance" = some (.builtin "isinstance") := by decide +kernel)
    (he : starEach [a, .Tuple es x1 tpos] X.env = (false, eval a X.env) :: starEach [.Tuple es x1 tpos] X.env := by rfl) (hpl : (backTo pos (starEach [.Tuple es x1 tpos] X.env)).any (·.1) = false := by rfl) (hs2 : starEach [.Tuple es x1 tpos] X.env = (false, eval (.Tuple es x1 tpos) X.env) :: starEach [] X.env := by rfl) :
    PE2 X (.Call (.Name "isinstance" p) [a, .Tuple es x1 tpos] [] pos) (tCB (rIsiT X.K) (tCons ta (tCons (tTup tl) tNil))) (dIsiT cs ta2) :=
  ⟨pe_callB call_isiT hg hm hv (pa_cons ha.pe (pa_cons (pe_tup hl.pa) pa_nil hs2) he) (he := he) (hpl := hpl), fun ρ μ Q2 q I σ H hA hS Q g => ha.re ρ μ _ q I σ H hA hS _ fun d μ1 v I1 H1 q1 a1 k1 r1 => by
    obtain ⟨t, b, h1, h2, q1⟩ := q1
    refine hl.re ρ μ1 (fun ds μ2 => ds = cs.map D.ty ∧ μ2 = μ1) ⟨rfl, rfl⟩ I1 σ H1 a1 (hS.mono k1.ex) _ ?_
    rintro ds μ2 vs I2 H2 ⟨rfl, rfl⟩ a2 k2 r2
    cases tys_inv r2
    refine ⟨by rw [List.length_map]; exact hz, fun tp htp => ?_⟩
    have a3 := a2.extra (o := .tup (cs.map V.ty)) htp
    exact ⟨v, tp, cs.map V.ty, .type t, cs.map Value.type, b, rfl, upd_same, tys_paired cs, tyD_ok a3 (r1.mono k2.ex) h1, kitL_ok h2, g _ _ _ _ _ q1 a3 ((k1.trans k2).trans (Kp.extra htp)) rfl⟩⟩
end
end Y

set_option Elab.async false
set_option linter.all false
set_option maxRecDepth 100000
set_option maxHeartbeats 4000000
namespace Y
open PySem PySem.Spec PyProof.Rows L2
/-! exceptions of own classes that stand over ValueError -/
/-- the root of them: it has no __init__ of its own -/
structure Rc (K : PySem.W.Frag) (mg : Str → Option Value) (x : Str) (R : Addr) : Prop where
  mg : mg x = some (.ref R)
  ga : PySem.W.specialIn K (.ref R) "__getattribute__" = some (some (.builtin "type.__getattribute__"))
  rd : PySem.W.readsIn K R (.type "type") = true
  fc : PySem.W.findCls K (.ref R) (.type "type") "__init__" = some (.val (.builtin "ValueError.__init__"))
section
variable {X : Cx} {o e : Expr} {es : List Expr} {to te : TE} {ta : TA} {f x : Str} {p p' p1 p2 pos : Pos} {R : Addr}
theorem pe_rinit {pl : Sem Bool} (T : Rc X.K X.mg x R) (hg : Gl X x) (ha : PA X (e :: es) ta) (hdb : (x == ("__debug__" : Str)) = false := by decide)
    (hc : eval (.Call (.Attribute (.Name x p1) "__init__" p2) (e :: es) [] pos) X.env = (do
      let ov ← eval (.Name x p1) X.env
      standAt p2.atName
      let (f, first) ← holding [ov] (getMethod ov "__init__" pl)
      callWith pos f first (backTo pos (starEach (e :: es) X.env)) (backToKw pos (keywordEach [] X.env))) := by rfl)
    (he : starEach (e :: es) X.env = (false, eval e X.env) :: starEach es X.env := by rfl) (hpl : (backTo pos (starEach es X.env)).any (·.1) = false := by rfl) :
    PE X (.Call (.Attribute (.Name x p1) "__init__" p2) (e :: es) [] pos) (tVeI X.K ta) := by
  refine ⟨fun pins s σ H Q I h => ?_⟩
  refine PySem.W.methodCall_KW (ld_glob I hg T.mg ?_ hdb) hc
  refine PySem.W.method_cls I.kIn T.ga (PySem.W.cls_value I.kIn T.rd T.fc (by decide +kernel) ?_)
  show wpAny _ _ (callWith pos (Value.builtin "ValueError.__init__") [] (backTo pos (starEach (e :: es) X.env)) []) _ _ _
  refine PyProof.Rows.callWith_method1 (thn (ha.run pos pins _ σ H _ (I.tok _) h) fun us s1 ⟨vs, H1, I1, r1, a, C, ws, ev, hl, T, ea, q⟩ => ?_) he hpl
  subst ev
  cases r1 with
  | @cons _ u0 _ ur ra rw' =>
    obtain rfl : u0 = Value.ref a := ra
    have hlen : ur.length ≤ sizeLine := by
      rw [← Paired.length rw', sizeLine_eq]
      omega
    exact oinit_ok T I1 ea hlen fun s' J => ⟨.non, H1, J, rfl, q⟩
end
/-- what an __init__ promises that stores its parameters under these names -/
def spX (C : Addr) (ns : List Str) : Sp := fun vs H Q _ => ∃ a ys, vs = .ref a :: ys ∧ ys.length = ns.length ∧ H a = some (exo a C none) ∧
  ∀ dx H', H dx = none → dx ≠ a → H' a = some (exo a C (some dx)) → H' dx = some (exd dx (ns.zip ys).reverse) → (∀ b, b ≠ a → b ≠ dx → H' b = H b) → Q .non H'
section
variable {K : PySem.W.Frag} {C : Addr}
theorem read1 {f : Str} {t : Str} {vs : List V} {H : Hp} {Q : VK} {E : XK} {N : List Str} (T : OexC K C) (n : PySem.W.findIn K (.ref C) f = some none) (h : spX C [f] vs H Q E) :
    tSeq (tDrop (tVeI K (tCons (tVar 0) (tCons (tC (.str t)) tNil)))) (tSeq (tOst K f (tVar 0) (tVar 1)) tNext) { nx := fun _ H' => Q .non H', rt := Q } (start N vs) H := by
  obtain ⟨a, ys, rfl, hl, ha, q⟩ := h
  match ys, hl with
  | [y], _ =>
    refine ⟨_, rfl, a, C, [.str t], rfl, by show 1 ≤ 1000; decide, T, ha, ?_⟩
    refine ⟨_, rfl, _, rfl, a, C, rfl, T, n, .inl ⟨ha, fun dx hd ne => ?_⟩⟩
    exact q dx _ hd ne upd_same (by rw [upd_ne ne, upd_same]; rfl) (fun b b1 b2 => by rw [upd_ne b1, upd_ne b2])
theorem read2 {f g : Str} {t : Str} {vs : List V} {H : Hp} {Q : VK} {E : XK} {N : List Str} (T : OexC K C) (n : PySem.W.findIn K (.ref C) f = some none) (n2 : PySem.W.findIn K (.ref C) g = some none) (h : spX C [f, g] vs H Q E) :
    tSeq (tDrop (tVeI K (tCons (tVar 0) (tCons (tC (.str t)) tNil)))) (tSeq (tOst K f (tVar 0) (tVar 1)) (tSeq (tOst K g (tVar 0) (tVar 2)) tNext)) { nx := fun _ H' => Q .non H', rt := Q } (start N vs) H := by
  obtain ⟨a, ys, rfl, hl, ha, q⟩ := h
  match ys, hl with
  | [y, z], _ =>
    refine ⟨_, rfl, a, C, [.str t], rfl, by show 1 ≤ 1000; decide, T, ha, ?_⟩
    refine ⟨_, rfl, _, rfl, a, C, rfl, T, n, .inl ⟨ha, fun dx hd ne => ?_⟩⟩
    refine ⟨_, rfl, _, rfl, a, C, rfl, T, n2, .inr ⟨dx, _, upd_same, by rw [upd_ne ne, upd_same], by simp, ?_⟩⟩
    exact q dx _ hd ne (by rw [upd_ne ne.symm, upd_same]) upd_same (fun b b1 b2 => by rw [upd_ne b2, upd_ne b1, upd_ne b2])
end
/-! ### where exceptions go -/
structure Wl [Jx] (X : Cx) (W2 : Env2 → XK2) (W : WX) : Prop where
  tk : Takes X W
  link : ∀ ρ σ C fs I μ H dx hfs, W2 ρ C fs μ → At0 X.K μ I H → Jx.J I μ H → Slots X.K I ρ σ → H dx = some (.xd hfs) → I dx = none → RpF X.K I fs hfs → W (.ref C) (some dx) σ H
/-- a def of the module that keeps a promise, and may raise -/
structure Dx (P : Program) (w : World) (K : PySem.W.Frag) (mg : Str → Option Value) (base : Heap) (x : Str) (k : Nat) (ps : List Str) (sp : Sp2) : Prop where
  of : ∃ f fd, FnOk P w K mg base (L2.CX P w) k f fd ps (toSp K sp) ∧ mg x = some (.ref f) ∧ PySem.W.keepIn K (.ref f) = true ∧ Binds K fd ps []
/-- the class of an exception as it stands, its __init__ stores these names -/
structure Xk (K : PySem.W.Frag) (mg : Str → Option Value) (x q : Str) (C : Addr) (st : Stmt) (ns : List Str) : Prop where
  oex : OexC K C
  gl : mg x = some (.ref C)
  of : ∃ f fd, Fun K "__init__" q st f fd ∧ PySem.W.findIn K (.ref C) "__init__" = some (some (.ref f)) ∧ PySem.W.typeIn K (.ref f) = some (.type "function") ∧ Binds K fd ("self" :: ns) []
  no : ∀ n ∈ ns, PySem.W.findIn K (.ref C) n = some none
/-- .. with its promise -/
structure Xi (P : Program) (w : World) (K : PySem.W.Frag) (mg : Str → Option Value) (base : Heap) (x : Str) (C : Addr) (ns : List Str) : Prop where
  oex : OexC K C
  gl : mg x = some (.ref C)
  of : ∃ f fd, FnOk P w K mg base CX0 1 f fd ("self" :: ns) (spX C ns) ∧ PySem.W.findIn K (.ref C) "__init__" = some (some (.ref f)) ∧ PySem.W.typeIn K (.ref f) = some (.type "function") ∧ Binds K fd ("self" :: ns) []
theorem Xk.ok {P : Program} {w : World} {K : PySem.W.Frag} {mg : Str → Option Value} {base : Heap} {x q : Str} {C : Addr} {st : Stmt} {ns : List Str} (T : Xk K mg x q C st ns) (S : FnScope ("self" :: ns) ("self" :: ns) (defScope st))
    (hb : ∀ (f : Addr) (cdv : Value) (A : Around) (outer : List Env) (s : Shared) (H : Hp) (E : XK), ∃ t, PSs (cxOf CX0 P w K mg base ("self" :: ns) q (defScope st) f cdv A outer s H E).nox (defBody st) t ∧ ∀ vs H Q E, spX C ns vs H Q E → t { nx := fun _ H' => Q .non H', rt := Q } (start ("self" :: ns) vs) H) : Xi P w K mg base x C ns := by
  obtain ⟨f, fd, F, h1, h2, h3⟩ := T.of
  refine ⟨T.oex, T.gl, f, fd, F.ok (k := 0) S (fun vs H Q E h => ?_) (fun cdv A outer s H vs Q E hr h => ?_), h1, h2, h3⟩
  · obtain ⟨a, ys, rfl, hl, _⟩ := h
    rw [List.length_cons, List.length_cons, hl]
  · obtain ⟨t, ht, hq⟩ := hb f cdv A outer s H E
    exact ⟨t, ht, hq vs H Q E h⟩
section
variable {X : Cx} {K : PySem.W.Frag} {a b c e o : Expr} {es rest : List Expr} {ta tb tc te to : TE} {ta2 tb2 tc2 te2 to2 : TE2} {pos apos cpos p tpos : Pos} {tl : TA} {tl2 : TA2} {x : Str} {C : Addr}
variable {ρ : Env2} {μ : Mu} {Q : DK} {k j : Nat} {ps ns : List Str} {sp : Sp2} {W2 : Env2 → XK2} {W : WX}
/-- f(..) that may raise -/
def dCallX (sp : Sp2) (W2 : Env2 → XK2) (t : TA2) : TE2 := fun ρ μ Q => t ρ μ fun ds μ1 => sp ds μ1 Q (W2 ρ)
theorem w_callX (h : tl2 ρ μ fun ds μ1 => sp ds μ1 Q (W2 ρ)) : dCallX sp W2 tl2 ρ μ Q := h
theorem re_callX [Jx] (hw : Wl X W2 W) (h : RA X.K tl tl2) : RE X.K (tCallS (toSp X.K sp) (WE W) tl) (dCallX sp W2 tl2) := fun ρ μ Q2 q I σ H hA hS Q g =>
  h ρ μ _ q I σ H hA hS _ fun ds μ1 vs I1 H1 q1 a1 k1 r1 =>
    ⟨ds, μ1, I1, Q2, W2 ρ, a1.toAt0, r1, q1, (g.past k1).low a1, fun C fs μ' I' H' dx hfs e a k h hi r => hw.link ρ σ C fs I' μ' H' dx hfs e a (Jx.step a1.j k) (hS.mono (k1.trans k).ex) h hi r⟩
theorem e_callX [Jx] (F : Dx X.prog X.w X.K X.mg X.base x j ps sp) (hw : Wl X W2 W) (hr : Room k X.A) (hg : Gl X x) (ha : PA2 X (e :: es) tl tl2) (hjk : j ≤ k := by first | decide | omega) (hdb : (x == ("__debug__" : Str)) = false := by decide) (he : starEach (e :: es) X.env = (false, eval e X.env) :: starEach es X.env := by rfl) (hpl : (backTo pos (starEach es X.env)).any (·.1) = false := by rfl) :
    PE2 X (.Call (.Name x p) (e :: es) [] pos) (tCallS (toSp X.K sp) (WE W) tl) (dCallX sp W2 tl2) := by
  obtain ⟨f, fd, F, hm, hk, hb⟩ := F.of
  exact ⟨pe_callS F (hr.mono hjk) hg hm hk hb (passAt hw.tk) ha.pa hdb he hpl, re_callX hw ha.re⟩
/-- raise C(..) -/
def dRaise (C : Addr) (ns : List Str) (W2 : Env2 → XK2) (t : TA2) : TS2 := fun _ ρ μ => t ρ μ fun ds μ1 => ds.length = ns.length ∧ W2 ρ C (ns.zip ds).reverse μ1
def dRaiseK (C : Addr) (ns : List Str) (W3 : XK2) : List D → Mu → Prop := fun ds μ1 => ds.length = ns.length ∧ W3 C (ns.zip ds).reverse μ1
theorem w_raise {D2 : Ends2} (h : tl2 ρ μ (dRaiseK C ns (W2 ρ))) : dRaise C ns W2 tl2 D2 ρ μ := h
theorem w_raiseK {W3 : XK2} {ds : List D} (l : ds.length = ns.length) (q : W3 C (ns.zip ds).reverse μ) : dRaiseK C ns W3 ds μ := ⟨l, q⟩
theorem RpF.revAux {I : Hp} : ∀ {a c : List (Str × D)} {b d : List (Str × V)}, RpF K I a b → RpF K I c d → RpF K I (a.reverseAux c) (b.reverseAux d)
  | _, _, _, _, .nil, g => g
  | (x, u) :: a, c, (y, v) :: b, d, .cons h1 h2, g => RpF.revAux (a := a) (c := (x, u) :: c) (b := b) (d := (y, v) :: d) h2 (.cons h1 g)
theorem RpF.rev {I : Hp} {fs : List (Str × D)} {hfs : List (Str × V)} (h : RpF K I fs hfs) : RpF K I fs.reverse hfs.reverse := RpF.revAux h .nil
theorem s_raise [Jx] (T : Xi X.prog X.w X.K X.mg X.base x C ns) (hw : Wl X W2 W) (hr : Room k X.A) (hg : Gl X x) (hc : X.calm = true) (ha : PA2 X (e :: es) tl tl2) (hn : ns.length ≤ 900 := by decide) (hk : 2 ≤ k := by first | decide | omega) (hdb : (x == ("__debug__" : Str)) = false := by decide)
    (he : starEach (e :: es) X.env = (false, eval e X.env) :: starEach es X.env := by rfl) (hpl : (backTo pos (starEach es X.env)).any (·.1) = false := by rfl) :
    PS2 X (.Raise (some (.Call (.Name x p) (e :: es) [] pos)) none tpos) (fun _ σ H => tMkO C (spX C ns) [] tl σ H fun cls d H' => W cls d σ H') (dRaise C ns W2 tl2) := by
  obtain ⟨f, fd, F, h1, h2, h3⟩ := T.of
  refine ⟨ps_raise hc hw.tk (pmk_oex T.oex h1 h2 F (hr.mono hk) h3 .nil pass0 hg T.gl ha.pa hdb he hpl), fun D2 ρ μ q I σ H hA hS D g => ?_⟩
  refine ha.re ρ μ _ q I σ H hA hS _ fun ds μ1 vs I1 H1 q1 a1 k1 r1 => ?_
  obtain ⟨hl, q1⟩ := q1
  have hl2 : vs.length = ns.length := r1.length.trans hl
  refine ⟨by omega, fun a hna => ?_⟩
  rw [List.append_nil]
  refine ⟨a, vs, rfl, hl2, upd_same, fun dx H' hdx hne e1 e2 e3 => ⟨rfl, dx, _, e1, e2, ?_, ?_⟩⟩
  · rw [upd_ne hne] at hdx; exact hdx
  · have hd1 : H1 dx = none := by rw [upd_ne hne] at hdx; exact hdx
    have eq : upd (del H' a) dx (.xd (ns.zip vs).reverse) = upd H1 dx (.xd (ns.zip vs).reverse) := by
      funext b
      by_cases hb : b = dx
      · rw [hb, upd_same, upd_same]
      · rw [upd_ne hb, upd_ne hb]
        by_cases hb2 : b = a
        · rw [hb2, del_same, hna]
        · rw [del_ne hb2, e3 b hb2 hb, upd_ne hb2]
    rw [eq]
    exact hw.link ρ σ C _ I1 μ1 _ dx _ q1 (a1.toAt0.extra hd1) (Jx.step a1.j (Kp.extra hd1)) (hS.mono k1.ex) upd_same (a1.noI hd1) ((RpF.zip hl.symm r1).rev)
/-- THE RULE for a def that may raise -/
theorem Tx.okX {P : Program} {w : World} {mg : Str → Option Value} {base : Heap} {st : Stmt} {N : List Str} (T : Tx K mg x st ps) (S : FnScope N ps (defScope st)) (len : ∀ ds μ Q E, sp ds μ Q E → ds.length = ps.length)
    (hb : ∀ [Jx] (f : Addr) (cdv : Value) (A : Around) (outer : List Env) (s : Shared) (H : Hp) (E : XK) (ds : List D) (μ : Mu) (Q : DK) (E2 : XK2), Room k (A.deeper (envOfC x (defScope st) s.heap.objs.size f cdv)) → Wl (cxOf (L2.CX P w) P w K mg base N x (defScope st) f cdv A outer s H E) (fun _ => E2) (fun cls d _ H => E cls d H) → sp ds μ Q E2 →
      ∃ ts t, PSs2 (cxOf (L2.CX P w) P w K mg base N x (defScope st) f cdv A outer s H E) (defBody st) ts t ∧ t { nx := fun _ μ' => RtC Q .non μ', rt := RtC Q } (start2 N ds) μ) : Dx P w K mg base x (k + 1) ps sp := by
  obtain ⟨f, fd, F, hm, hbd⟩ := T.of
  refine ⟨f, fd, F.okX S (fun vs H Q E h => ?_) (fun cdv A outer s H vs Q E hr h => ?_), hm, F.kp, hbd⟩
  · obtain ⟨ds, μ, I, Q2, E2, _, r, hsp, _⟩ := h
    rw [r.length]; exact len _ _ _ _ hsp
  · obtain ⟨ds, μ, I, Q2, E2, hA, r, hsp, g, gx⟩ := h
    letI jx : Jx := ⟨fun I' μ' H' => Kp I μ H I' μ' H', fun a b => a.trans b⟩
    have hA' : At K μ I H := ⟨hA, Kp.refl⟩
    have hw : Wl (cxOf (L2.CX P w) P w K mg base N x (defScope st) f cdv A outer s H E) (fun _ => E2) (fun cls d _ H => E cls d H) :=
      ⟨takes_of rfl rfl rfl rfl, fun ρ σ C fs I' μ' H' dx hfs e a j _ h hi r => gx C fs μ' I' H' dx hfs e a j h hi r⟩
    obtain ⟨ts, t, ht, hq⟩ := hb f cdv A outer s H E ds μ Q2 E2 hr hw hsp
    refine ⟨ts, ht.ps, ht.re _ _ μ hq I _ H hA' (slots_start r) _ ⟨?_, ?_, fun _ _ _ _ _ h => h.elim, fun _ _ _ _ _ h => h.elim⟩⟩
    · rintro ρ' μ' σ' I' H' ⟨d', μ2, sh, q⟩ a' s' k'
      obtain ⟨I2, a2, k2, r2⟩ := sh K I' H' .non a' rfl
      exact g d' μ2 _ I2 H' q a2.toAt0 (k'.trans k2) r2
    · rintro d μ' v I' H' ⟨d', μ2, sh, q⟩ a' k' r'
      obtain ⟨I2, a2, k2, r2⟩ := sh K I' H' v a' r'
      exact g d' μ2 _ I2 H' q a2.toAt0 (k'.trans k2) r2
end
end Y

set_option Elab.async false
set_option linter.all false
set_option maxRecDepth 100000
set_option maxHeartbeats 4000000
namespace Y
open PySem PySem.Spec PyProof.Rows L2
/-! try: .. except R as e: .. -/
abbrev Jx.off : Jx := ⟨fun _ _ _ => False, fun h _ => h⟩
/-- what the suite knows of the exception that it holds -/
def Xs [Jx] (K : PySem.W.Frag) (cls : Value) (d : Option Addr) (C : Addr) (fs : List (Str × D)) : Prop := ∀ I μ H, At0 K μ I H → Jx.J I μ H → cls = .ref C ∧ ∃ dd hfs, d = some dd ∧ H dd = some (.xd hfs) ∧ RpF K I fs hfs
theorem Xs.no {K : PySem.W.Frag} {cls : Value} {d : Option Addr} {C : Addr} {fs : List (Str × D)} : @Xs Jx.off K cls d C fs := fun _ _ _ _ h => h.elim
theorem Slots.unset {K : PySem.W.Frag} {I : Hp} {ρ : Env2} {σ : L2.St} (i : Nat) (h : Slots K I ρ σ) : Slots K I (ρ.set i none) (σ.set i none) := by
  refine ⟨by rw [List.length_set, List.length_set]; exact h.1, fun j d q => ?_⟩
  by_cases hj : i = j
  · subst hj
    by_cases hl : i < ρ.length
    · rw [List.getElem?_set_self hl] at q; cases q
    · rw [List.getElem?_eq_none_iff.mpr (by rw [List.length_set]; omega)] at q; cases q
  · rw [List.getElem?_set_ne hj] at q ⊢
    exact h.2 j d q
/-- the same wishes, where more is known -/
theorem GoS.over {j1 j2 : Jx} {K : PySem.W.Frag} {I : Hp} {μ : Mu} {H : Hp} {D2 : Ends2} {D : Ends} (h : ∀ I μ H, j2.J I μ H → j1.J I μ H) (g : @GoS j1 K I μ H D2 D) : @GoS j2 K I μ H D2 D :=
  @GoS.mk j2 _ _ _ _ _ _
    (fun ρ' μ' σ' I' H' q a s k => @GoS.nx j1 _ _ _ _ _ _ g ρ' μ' σ' I' H' q (@At.mk j1 _ _ _ _ (@At.toAt0 j2 _ _ _ _ a) (h _ _ _ (@At.j j2 _ _ _ _ a))) s k)
    (fun d μ' v I' H' q a k r => @GoS.rt j1 _ _ _ _ _ _ g d μ' v I' H' q (@At.mk j1 _ _ _ _ (@At.toAt0 j2 _ _ _ _ a) (h _ _ _ (@At.j j2 _ _ _ _ a))) k r)
    (fun ρ' μ' σ' I' H' q a s k => @GoS.bk j1 _ _ _ _ _ _ g ρ' μ' σ' I' H' q (@At.mk j1 _ _ _ _ (@At.toAt0 j2 _ _ _ _ a) (h _ _ _ (@At.j j2 _ _ _ _ a))) s k)
    (fun ρ' μ' σ' I' H' q a s k => @GoS.ct j1 _ _ _ _ _ _ g ρ' μ' σ' I' H' q (@At.mk j1 _ _ _ _ (@At.toAt0 j2 _ _ _ _ a) (h _ _ _ (@At.j j2 _ _ _ _ a))) s k)
/-- behind the suite the name is gone -/
def gone2 (i : Nat) (D2 : Ends2) : Ends2 := ⟨fun ρ μ => D2.nx (ρ.set i none) μ, D2.rt, fun ρ μ => D2.bk (ρ.set i none) μ, fun ρ μ => D2.ct (ρ.set i none) μ⟩
/-- where an exception of the body goes -/
def wAs2 (K : PySem.W.Frag) (c : Value) (i : Nat) (ts2 : Addr → Addr → List (Str × D) → TS2) (Wout2 : Env2 → XK2) (D2 : Ends2) : Env2 → XK2 := fun ρ C fs μ =>
  ∃ b, PySem.W.exmOne K (.ref C) c = some b ∧ (b = true → ∀ a, ts2 a C fs (gone2 i D2) (ρ.set i (some (.adr a))) μ) ∧ (b = false → Wout2 ρ C fs μ)
theorem w_caught {K : PySem.W.Frag} {c : Value} {i : Nat} {ts2 : Addr → Addr → List (Str × D) → TS2} {Wout2 : Env2 → XK2} {D2 : Ends2} {ρ : Env2} {C : Addr} {fs : List (Str × D)} {μ : Mu} (h : PySem.W.exmOne K (.ref C) c = some true) (q : ∀ a, ts2 a C fs (gone2 i D2) (ρ.set i (some (.adr a))) μ) : wAs2 K c i ts2 Wout2 D2 ρ C fs μ :=
  ⟨true, h, fun _ => q, fun z => by cases z⟩
def dTry (K : PySem.W.Frag) (c : Value) (i : Nat) (tb2 : (Env2 → XK2) → TS2) (ts2 : Addr → Addr → List (Str × D) → TS2) (Wout2 : Env2 → XK2) : TS2 := fun D2 ρ μ => tb2 (wAs2 K c i ts2 Wout2 D2) D2 ρ μ
theorem w_try {K : PySem.W.Frag} {c : Value} {i : Nat} {tb2 : (Env2 → XK2) → TS2} {ts2 : Addr → Addr → List (Str × D) → TS2} {Wout2 : Env2 → XK2} {D2 : Ends2} {ρ : Env2} {μ : Mu} (h : tb2 (wAs2 K c i ts2 Wout2 D2) D2 ρ μ) : dTry K c i tb2 ts2 Wout2 D2 ρ μ := h
theorem s_try [jx : Jx] {X : Cx} {x n : Str} {c : Value} {i : Nat} {body suite : List Stmt} {b₀ : Stmt} {np pos pos' : Pos} {tb : WX → TS} {tb2 : (Env2 → XK2) → TS2} {ts : Addr → Value → Option Addr → TS} {ts2 : Addr → Addr → List (Str × D) → TS2} {Wout : WX} {Wout2 : Env2 → XK2}
    (hN : X.N.Nodup) (hw : Wl X Wout2 Wout) (hc : Names X x c)
    (hb : ∀ [Jx] (W2 : Env2 → XK2) (W : WX) (pn : List (Addr × Obj)) (xe : Value → Shared → Prop), Wl (X.tr pn xe) W2 W → PSs2 (X.tr pn xe) body (tb W) (tb2 W2))
    (hsu : ∀ [Jx] (a : Addr) (oe : Obj) (cls : Value) (d : Option Addr) (pn : List (Addr × Obj)) (C : Addr) (fs : List (Str × D)), Zc cls d oe → (∃ vs, oe.data = .fields vs) → Xs X.K cls d C fs → PSs2 (X.suite a ((a, oe) :: pn)) (b₀ :: suite) (ts a cls d) (ts2 a C fs))
    (hs : X.stack = X.env :: X.outer := by rfl) (hf : X.env.frame = some X.env.locals := by rfl) (hi : X.N[i]? = some n := by rfl) (hln : X.env.kindOf n = some .local := by rfl) :
    PS2 X (.Try body [.ExceptHandler (some (.Name x np)) (some n) (b₀ :: suite) pos'] [] [] pos) (fun D σ H => tb (wAs X.K c i ts Wout D) D σ H) (dTry X.K c i tb2 ts2 Wout2) := by
  refine ⟨ps_try_as hs hf hN hi hln hc hw.tk (fun W pn xe tk _ => @PSs2.ps Jx.off _ _ _ _ (@hb Jx.off (fun _ _ _ _ => False) W pn xe (@Wl.mk Jx.off _ _ _ tk fun _ _ _ _ _ _ _ _ _ _ _ j => j.elim)))
    (fun a oe cls d pn hz hv => @PSs2.ps Jx.off _ _ _ _ (@hsu Jx.off a oe cls d pn 0 [] hz hv Xs.no)), fun D2 ρ μ q I σ H hA hS D g => ?_⟩
  have past : ∀ {I' : Hp} {μ' : Mu} {H' : Hp}, Kp I μ H I' μ' H' → GoS X.K I' μ' H' D2 D := fun k => g.past k
  let j1 : Jx := ⟨fun I' μ' H' => jx.J I' μ' H' ∧ Kp I μ H I' μ' H', fun a b => ⟨jx.step a.1 b, a.2.trans b⟩⟩
  have hA1 : @At j1 X.K μ I H := @At.mk j1 _ _ _ _ (@At.toAt0 jx _ _ _ _ hA) ⟨@At.j jx _ _ _ _ hA, Kp.refl⟩
  have hw1 : @Wl j1 (X.tr [] fun _ _ => True) (wAs2 X.K c i ts2 Wout2 D2) (wAs X.K c i ts Wout D) := by
    refine @Wl.mk j1 _ _ _ (fun _ _ _ => trivial) ?_
    rintro ρ' σ' C fs I' μ' H' dx hfs ⟨b, hb1, hy, hn⟩ a0 ⟨jj, kk⟩ hS' hd hi' hr
    refine ⟨b, hb1, fun e a ha => ?_, fun e => @Wl.link jx _ _ _ hw ρ' σ' C fs I' μ' H' dx hfs (hn e) a0 jj hS' hd hi' hr⟩
    have hmd : μ' dx = none := by
      cases z : μ' dx with
      | none => rfl
      | some m =>
        obtain ⟨_, o, ho, hR⟩ := a0.own dx m z
        rw [hd] at ho
        cases ho
        exact hR.noXd.elim
    let j2 : Jx := ⟨fun I2 μ2 H2 => jx.J I2 μ2 H2 ∧ H2 dx = some (.xd hfs) ∧ I2 dx = none ∧ μ2 dx = none ∧ Exx I' I2, fun p k => by
      obtain ⟨p1, p2, p3, p4, p5⟩ := p
      obtain ⟨r1, r2, r3⟩ := k.fr dx _ p2 p3 p4
      exact ⟨jx.step p1 k, r1, r2, r3, p5.trans k.ex⟩⟩
    have hA2 : @At j2 X.K μ' I' H' := @At.mk j2 _ _ _ _ a0 ⟨jj, hd, hi', hmd, Exx.refl _⟩
    have hxs : @Xs j2 X.K (.ref C) (some dx) C fs := fun I2 μ2 H2 _ p => ⟨rfl, dx, hfs, rfl, p.2.1, RpF.mono p.2.2.2.2 hr⟩
    have hR := @PSs2.re j2 _ _ _ _ (@hsu j2 a { cls := .ref C, dict := some dx, data := .fields #[] } (.ref C) (some dx) [] C fs ⟨rfl, rfl⟩ ⟨_, rfl⟩ hxs)
    refine hR (gone2 i D2) (ρ'.set i (some (.adr a))) μ' (hy e a) I' (σ'.set i (some (.ref a))) H' hA2 (hS'.set i rfl) _ ?_
    have g2 : @GoS j2 X.K I' μ' H' D2 D := GoS.over (j1 := jx) (j2 := j2) (fun _ _ _ p => p.1) (past kk)
    exact @GoS.mk j2 _ _ _ _ _ _ (fun ρ3 μ3 σ3 I3 H3 q3 a3 s3 k3 => @GoS.nx j2 _ _ _ _ _ _ g2 _ μ3 _ I3 H3 q3 a3 (s3.unset i) k3) (show @Go j2 X.K I' μ' H' D2.rt D.rt from @GoS.rt j2 _ _ _ _ _ _ g2)
      (fun ρ3 μ3 σ3 I3 H3 q3 a3 s3 k3 => @GoS.bk j2 _ _ _ _ _ _ g2 _ μ3 _ I3 H3 q3 a3 (s3.unset i) k3) (fun ρ3 μ3 σ3 I3 H3 q3 a3 s3 k3 => @GoS.ct j2 _ _ _ _ _ _ g2 _ μ3 _ I3 H3 q3 a3 (s3.unset i) k3)
  exact @PSs2.re j1 _ _ _ _ (@hb j1 _ _ _ _ hw1) D2 ρ μ q I σ H hA1 hS D (GoS.over (j1 := jx) (j2 := j1) (fun _ _ _ p => p.1) g)
/-- a body that lets nothing out -/
theorem Wl.none [Jx] {X : Cx} : Wl X (fun _ _ _ _ => False) (fun _ _ _ _ => False) := ⟨takes0, fun _ _ _ _ _ _ _ _ _ h => h.elim⟩
section
variable {X : Cx} {ta : TE} {ta2 : TE2} {a C C' : Addr} {oe : Obj} {cls : Value} {d : Option Addr} {pn : List (Addr × Obj)} {e : Expr} {pos : Pos} {f : Str} {fs : List (Str × D)} {ρ : Env2} {μ : Mu} {Q : DK}
def dXf (a C C' : Addr) (fs : List (Str × D)) (f : Str) (ta : TE2) : TE2 := fun ρ μ Q => ta ρ μ fun x μ1 => x = .adr a ∧ C = C' ∧ ∃ v, fs.lookup f = some v ∧ Q v μ1
def dXfK (a C C' : Addr) (fs : List (Str × D)) (f : Str) (Q : DK) : DK := fun x μ1 => x = .adr a ∧ C = C' ∧ ∃ v, fs.lookup f = some v ∧ Q v μ1
theorem w_xf (h : ta2 ρ μ (dXfK a C C' fs f Q)) : dXf a C C' fs f ta2 ρ μ Q := h
theorem w_xfK {v : D} (h : fs.lookup f = some v) (q : Q v μ) : dXfK a C C fs f Q (.adr a) μ := ⟨rfl, rfl, v, h, q⟩
theorem e_xf [Jx] (T : XfC X.K C') (hno : PySem.W.findIn X.K (.ref C') f = some none) (hz : Zc cls d oe) (hf : ∃ vs, oe.data = .fields vs) (hx : Xs X.K cls d C fs) (he : PE2 (X.suite a ((a, oe) :: pn)) e ta ta2)
    (hb : attributeBase e f (X.suite a ((a, oe) :: pn)).env (eval e (X.suite a ((a, oe) :: pn)).env) = eval e (X.suite a ((a, oe) :: pn)).env := by rfl) :
    PE2 (X.suite a ((a, oe) :: pn)) (.Attribute e f pos) (tXf a cls d C' f ta) (dXf a C C' fs f ta2) :=
  ⟨pe_xf T hno hz hf he.pe hb, fun ρ μ Q2 q I σ H hA hS Q g => he.re ρ μ _ q I σ H hA hS _ fun x μ1 v I1 H1 q1 a1 k1 r1 => by
    obtain ⟨rfl, rfl, v, hl, q1⟩ := q1
    obtain ⟨e1, dd, hfs, e2, e3, e4⟩ := hx I1 μ1 H1 a1.toAt0 a1.j
    obtain ⟨y, hy, ry⟩ := RpF.look f e4 hl
    exact ⟨r1, e1, dd, hfs, y, e2, e3, hy, g _ _ _ _ _ q1 a1 k1 ry⟩⟩
end
end Y

set_option Elab.async false
set_option linter.all false
set_option maxRecDepth 100000
set_option maxHeartbeats 4000000
namespace PySem.W
open PySem PySem.Calls PyProof.Rows
/-! isinstance of a caught exception that has a dict -/
section
variable {K : Frag} {D x : Addr} {ox : Obj} {od : Option Obj} {prog : Program} {w : World} {A : Around} {E : Value → Shared → Prop} {s : Shared}
theorem xd_find {name : Str} {a g : Value} (hc : (clsIn K D).isSome = true) (ha : findIn K (.ref D) name = some (some a)) (hg : specialIn K a "__get__" = some (some g)) (ht : takesIn K a = some true) : findObj K D od name = some (.bind g a) := by
  obtain ⟨cd, hc⟩ := Option.isSome_iff_exists.mp hc
  unfold findObj
  rw [hc, Option.bind_some, ha, Option.bind_some]
  simp [hg, ht]
theorem xd_class {Q : Option Value → Shared → Prop} (hga : findIn K (.ref D) "__getattribute__" = some (some (.builtin "BaseException.__getattribute__"))) (hgt : findIn K (.ref D) "__getattr__" = some none) (hsub : subIn K (.ref D) (.type "BaseException") = some true)
    (hdct : hasDictIn K D = true) (ha : findIn K (.ref D) "__class__" = some (some (.builtin "object.__class__")))
    (hn : specialIn K (.builtin "object.__class__") "__get__" = some (some (.builtin "getset_descriptor.__get__"))) (htk : takesIn K (.builtin "object.__class__") = some true) (hm : mroIn K D (.type "object") = some true)
    (X : K.In s.heap) (I : InstAt s.heap x ox D od) (h : Q (some (.ref D)) { s with toks := s.toks + 1 }) : wpAny (model prog w) A (getAttr? (.ref x) "__class__") Q E s := by
  have hf : findObj K D od "__class__" = some (.bind (.builtin "getset_descriptor.__get__") (.builtin "object.__class__")) := xd_find (by obtain ⟨cd, hc, _⟩ := any_some hdct; rw [hc]; rfl) ha hn htk
  obtain ⟨hp, g, d, t, os⟩ := s
  have T0 := I.type (M := model prog w)
  have T1 := looks_findIn (M := model prog w) X hga
  have T2 := looks_findIn (M := model prog w) X hgt
  have T3 := looks_find (M := model prog w) X I hf
  have sub : Looks (model prog w) hp (isInstance (.ref x) (.type "BaseException")) true := T0.andThen (looks_subIn X hsub)
  have n0 : (false && onTheHeap (Value.builtin "BaseException.__getattribute__")) = false := rfl
  have n2 : (Value.builtin "BaseException.__getattribute__" == Value.builtin "object.__getattribute__") = false := by decide +kernel
  have n1 : (onTheHeap (Value.ref D) && Value.builtin "BaseException.__getattribute__" == Value.builtin "object.__getattribute__") = false := by rw [n2]; rfl
  unfold getAttr? getAttrBy? getAttrBy
  refine wpAny_bind (wpAny_mkText (wpAny_bind (wpAny_attempt (wpAny_holding (wpAny_bind (T0.at (wpAny_bind (T1.at ?_))))))))
  show wpAny _ _ (if (onTheHeap (Value.ref D) && Value.builtin "BaseException.__getattribute__" == Value.builtin "object.__getattribute__") = true then _ else _) _ _ _
  rw [n1, if_neg Bool.false_ne_true]
  unfold getAttrByItsOwn hookBefore
  refine wpAny_bind ?_
  rw [if_pos (show onTheHeap (Value.ref D) = true from rfl)]
  refine T2.at ?_
  refine wpAny_bind (wpAny_attempt (wpAny_holding ?_))
  unfold callGetattribute
  rw [n0, if_neg Bool.false_ne_true]
  unfold boundAndCalled
  rw [PySem.F.excAttr_ValueError.ga.bind (.ref x)]
  refine wpAny_bind (wpAny_pure ?_)
  show wpAny _ _ (call (.builtin "BaseException.__getattribute__") [.ref x, .str "__class__" t]) _ _ _
  refine wpAny_call (codeAny_call_builtin PySem.F.excAttr_ValueError.ga.plain PySem.F.entry_bexc_ga ?_)
  refine @check_slot (model prog w) _ _ ⟨hp, g, d, t + 1, os⟩ "BaseException.__getattribute__" "BaseException" "__getattribute__" (.ref x) [.str "__class__" t] [] _ (by decide +kernel) (by decide +kernel) sub (PySem.F.args_bexc_ga (.ref x) (.str "__class__" t)) ?_
  unfold Builtin.«object.__getattribute__»
  refine wpAny_bind (wpAny_of_eq (a := ((Value.ref x : Value), [Value.str "__class__" t])) (by first | rfl | (simp only [slotArgs]; rfl)) ?_)
  refine wpAny_bind (wpAny_pure (wpAny_bind (T0.at (wpAny_bind (T3.at ?_)))))
  show wpAny _ _ (holding [Value.builtin "object.__class__"] (call (.builtin "getset_descriptor.__get__") [.builtin "object.__class__", .ref x, .ref D]) >>= ret) _ _ _
  refine wpAny_bind (wpAny_holding (wpAny_call (class_get (s := ⟨hp, g, d, t + 1, os⟩) (ox := ox) (od := od) X I hm ?_)))
  refine wpAny_pure ?_
  show wpAny _ _ (handedOut (.ref D)) _ _ _
  rw [handedOut_of (v := .ref D) rfl]
  first
    | exact wpAny_pure (wpAny_pure h)
    | exact wpAny_pure h
    | exact wpAny_pure (wpAny_bind (wpAny_pure (wpAny_pure h)))
theorem xd_kit (C : L2.ExcC K D) : KitX K (.ref x) (.ref D) (fun h => ∃ od, InstAt h x ox D od) where
  ty := fun _ _ _ ⟨_, I⟩ => I.type
  it := fun _ _ X _ => by
    obtain ⟨cdD, hcD, _⟩ := any_some C.hd
    unfold clsIn at hcD
    split at hcD
    · rename_i c' d' cd' sl' ho
      intro A' Q' E' s' k q
      unfold isType loadHead
      exact wpAny_bind (wpAny_loadPart (k _ _ (X _ _ ho)) (wpAny_pure q))
    · cases hcD
  ne := fun h tp dd its n sl X htp => by
    obtain ⟨cdD, hcD, _⟩ := any_some C.hd
    refine Bool.eq_false_iff.mpr fun q => ?_
    have e : D = tp := Value.ref.inj (beq_iff_eq.mp q)
    subst e
    unfold clsIn at hcD
    split at hcD
    · rename_i c' d' cd' sl' ho
      have z := (X _ _ ho).symm.trans htp
      cases z
    · cases hcD
  ca := fun X ⟨_, I⟩ k => xd_class C.hg C.hk C.hs C.hd C.ha C.hn C.ht C.hm X I k
end
end PySem.W

set_option Elab.async false
set_option linter.all false
set_option maxRecDepth 100000
set_option maxHeartbeats 4000000
namespace Y
open PySem PySem.Spec PyProof.Rows L2
/-! isinstance(e, R), isinstance(e, (R, S, ..)), e the exception that the suite holds -/
def rIsX (K : PySem.W.Frag) (a : Addr) (cls : Value) (d : Option Addr) : List V → Hp → VK → Prop := fun xs H Q => ∃ (D dd : Addr) (hfs : List (Str × V)) (c : V) (cv : Value) (b : Bool), cls = .ref D ∧ ExcC K D ∧ d = some dd ∧ H dd = some (.xd hfs) ∧ xs = [.ref a, c] ∧ ClsV c cv ∧ PySem.W.kitOne K (.ref D) cv = some b ∧ Q (.bl b) H
def rIsXT (K : PySem.W.Frag) (a : Addr) (cls : Value) (d : Option Addr) : List V → Hp → VK → Prop := fun xs H Q => ∃ (D dd tp : Addr) (hfs : List (Str × V)) (cs : List V) (us : List Value) (b : Bool), cls = .ref D ∧ ExcC K D ∧ d = some dd ∧ H dd = some (.xd hfs) ∧ xs = [.ref a, .ref tp] ∧ H tp = some (.tup cs) ∧ Paired ClsV cs us ∧ PySem.W.kitAny K (.ref D) us = some b ∧ Q (.bl b) H
section
variable {X : Cx} {a : Addr} {oe : Obj} {pn : List (Addr × Obj)} {cls : Value} {d : Option Addr}
theorem call_isX (hz : Zc cls d oe) (hf : ∃ vs, oe.data = .fields vs) : CallR (X.suite a ((a, oe) :: pn)) (.builtin "isinstance") (rIsX X.K a cls d) := by
  intro pins s σ H xs us Q I r h
  obtain ⟨D, dd, hfs, c, cv, b, rfl, C, rfl, ea, rfl, k, e, q⟩ := h
  obtain ⟨u1, u2, rfl, r1, r2⟩ := vals2 r
  cases (show u1 = Value.ref a from r1)
  have ec := k.eq r2
  subst ec
  obtain ⟨hget, _⟩ := I.pin (a, oe) (List.mem_append.mpr (.inl List.mem_cons_self))
  obtain ⟨vs, hv⟩ := hf
  obtain ⟨mA, hns, hr⟩ := (show ObjOk X.prog X.w H s.heap dd (.xd hfs) from I.hok dd _ ea)
  obtain ⟨od, ho, hl⟩ := lookIn_ns hns
  have J : PySem.W.InstAt s.heap a oe D (some od) := ⟨hget, hz.1, by unfold PySem.W.notCls; rw [hv] <;> rfl, by rw [hz.2]; exact ho⟩
  exact PySem.W.kia_one (PySem.W.xd_kit C) I.kIn ⟨_, J⟩ e (fun z => nomatch z) fun tk => ⟨.bl b, H, I.kept (t' := tk) fun _ _ z => z, rfl, q⟩
theorem call_isXT (hz : Zc cls d oe) (hf : ∃ vs, oe.data = .fields vs) : CallR (X.suite a ((a, oe) :: pn)) (.builtin "isinstance") (rIsXT X.K a cls d) := by
  intro pins s σ H xs us Q I r h
  obtain ⟨D, dd, tp, hfs, cs, ws, b, rfl, C, rfl, ea, rfl, hT, k, e, q⟩ := h
  obtain ⟨u1, u2, rfl, r1, r2⟩ := vals2 r
  cases (show u1 = Value.ref a from r1)
  cases (show u2 = Value.ref tp from r2)
  obtain ⟨hget, _⟩ := I.pin (a, oe) (List.mem_append.mpr (.inl List.mem_cons_self))
  obtain ⟨vs, hv⟩ := hf
  obtain ⟨mA, hns, hr⟩ := (show ObjOk X.prog X.w H s.heap dd (.xd hfs) from I.hok dd _ ea)
  obtain ⟨od, ho, hl⟩ := lookIn_ns hns
  have J : PySem.W.InstAt s.heap a oe D (some od) := ⟨hget, hz.1, by unfold PySem.W.notCls; rw [hv] <;> rfl, by rw [hz.2]; exact ho⟩
  obtain ⟨_, its, rv, o, h1, h2, n, h3⟩ := (show ObjOk X.prog X.w H s.heap tp (.tup cs) from I.hok tp _ hT)
  have e3 := ClsV.all k rv
  subst e3
  obtain ⟨oc, odc, dt, sl⟩ := o
  simp only at h2 h3
  subst h2 h3
  exact PySem.W.kia_tup (PySem.W.xd_kit C) I.kIn ⟨_, J⟩ h1 e (fun z => nomatch z) fun tk => ⟨.bl b, H, I.kept (t' := tk) fun _ _ z => z, rfl, q⟩
end
/-- a class as a value -/
inductive ClsD : D → Value → Prop where
  | own (R : Addr) : ClsD (.adr R) (.ref R)
  | ty (n : String) : ClsD (.ty n) (.type n)
theorem ClsD.rel {K : PySem.W.Frag} {I : Hp} {y : D} {u : Value} {v : V} (k : ClsD y u) (r : Rp K I y v) : ClsV v u := by
  cases k with
  | own R => cases (show v = _ from r); exact .own R
  | ty n => cases (show v = _ from r); exact .ty n
inductive ClsDs : List D → List Value → Prop where
  | nil : ClsDs [] []
  | cons {y : D} {u : Value} {ys : List D} {us : List Value} (h : ClsD y u) (t : ClsDs ys us) : ClsDs (y :: ys) (u :: us)
theorem ClsDs.rel {K : PySem.W.Frag} {I : Hp} : ∀ {ys : List D} {us : List Value} {vs : List V}, ClsDs ys us → RpA K I ys vs → Paired ClsV vs us
  | _, _, _, .nil, r => by cases (show _ = _ from r); exact .nil
  | _, _, _, .cons h t, r => by
    obtain ⟨v, w, rfl, r1, r2⟩ := r
    exact .cons (h.rel r1) (ClsDs.rel t r2)
section
variable {X : Cx} {K : PySem.W.Frag} {a C : Addr} {oe : Obj} {pn : List (Addr × Obj)} {cls : Value} {d : Option Addr} {fs : List (Str × D)} {e c : Expr} {es : List Expr} {te : TE} {te2 : TE2} {tl : TA} {tl2 : TA2} {p pos tpos : Pos} {ρ : Env2} {μ : Mu} {Q : DK} {x : Str}
def dIsX (K : PySem.W.Frag) (a C : Addr) : DRC := fun xs μ Q => ∃ y u b, xs = [.adr a, y] ∧ ClsD y u ∧ ExcC K C ∧ PySem.W.kitOne K (.ref C) u = some b ∧ Q (.bl b) μ
theorem w_isX {y : D} {u : Value} {b : Bool} (h1 : ClsD y u) (h2 : ExcC K C) (h3 : PySem.W.kitOne K (.ref C) u = some b) (q : Q (.bl b) μ) : dIsX K a C [.adr a, y] μ Q := ⟨y, u, b, rfl, h1, h2, h3, q⟩
theorem rc_isX [Jx] (hx : Xs K cls d C fs) : RC K (rIsX K a cls d) (dIsX K a C) := fun xs μ Q2 q I H vs hA r Q k => by
  obtain ⟨y, u, b, rfl, h1, h2, h3, q⟩ := q
  obtain ⟨v, w, rfl, e1, e2⟩ := r.two_inv
  cases (show v = _ from e1)
  obtain ⟨x1, dd, hfs, x2, x3, _⟩ := hx I μ H hA.toAt0 hA.j
  exact ⟨C, dd, hfs, w, u, b, x1, h2, x2, x3, rfl, h1.rel e2, h3, k _ _ _ _ _ q hA Kp.refl rfl⟩
theorem e_isX [Jx] (hz : Zc cls d oe) (hf : ∃ vs, oe.data = .fields vs) (hx : Xs X.K cls d C fs) (hg : Gl (X.suite a ((a, oe) :: pn)) "isinstance") (hm : (X.suite a ((a, oe) :: pn)).mg "isinstance" = none) (ha : PA2 (X.suite a ((a, oe) :: pn)) [e, c] tl tl2) (hv : bootBuiltins "isinstance" = some (.builtin "isinstance") := by decide +kernel)
    (he : starEach [e, c] (X.suite a ((a, oe) :: pn)).env = (false, eval e (X.suite a ((a, oe) :: pn)).env) :: starEach [c] (X.suite a ((a, oe) :: pn)).env := by rfl) (hpl : (backTo pos (starEach [c] (X.suite a ((a, oe) :: pn)).env)).any (·.1) = false := by rfl) :
    PE2 (X.suite a ((a, oe) :: pn)) (.Call (.Name "isinstance" p) [e, c] [] pos) (tCB (rIsX X.K a cls d) tl) (dCB (dIsX X.K a C) tl2) := e_cb (call_isX hz hf) (rc_isX (K := X.K) hx) hg hm hv ha (he := he) (hpl := hpl)
/-- .. of a tuple of classes -/
def dIsXT (K : PySem.W.Frag) (a C : Addr) (te : TE2) (t : TA2) : TE2 := fun ρ μ Q => te ρ μ fun x μ1 => t ρ μ1 fun ys μ2 => ∃ us b, x = .adr a ∧ ClsDs ys us ∧ ys.length ≤ sizeLine ∧ ExcC K C ∧ PySem.W.kitAny K (.ref C) us = some b ∧ Q (.bl b) μ2
def dIsXTK (K : PySem.W.Frag) (a C : Addr) (Q : DK) (x : D) : List D → Mu → Prop := fun ys μ2 => ∃ us b, x = .adr a ∧ ClsDs ys us ∧ ys.length ≤ sizeLine ∧ ExcC K C ∧ PySem.W.kitAny K (.ref C) us = some b ∧ Q (.bl b) μ2
theorem w_isXT (h : te2 ρ μ fun x μ1 => tl2 ρ μ1 (dIsXTK K a C Q x)) : dIsXT K a C te2 tl2 ρ μ Q := h
theorem w_isXTK {ys : List D} {us : List Value} {b : Bool} (h1 : ClsDs ys us) (hl : ys.length ≤ sizeLine) (h2 : ExcC K C) (h3 : PySem.W.kitAny K (.ref C) us = some b) (q : Q (.bl b) μ) : dIsXTK K a C Q (.adr a) ys μ := ⟨us, b, rfl, h1, hl, h2, h3, q⟩
theorem e_isXT [Jx] {x1} (hz : Zc cls d oe) (hf : ∃ vs, oe.data = .fields vs) (hx : Xs X.K cls d C fs) (hg : Gl (X.suite a ((a, oe) :: pn)) "isinstance") (hm : (X.suite a ((a, oe) :: pn)).mg "isinstance" = none) (he2 : PE2 (X.suite a ((a, oe) :: pn)) e te te2) (hl : PA2 (X.suite a ((a, oe) :: pn)) es tl tl2)
    (hv : bootBuiltins "isinstance" = some (.builtin "isinstance") := by decide +kernel) (he : starEach [e, .Tuple es x1 tpos] (X.suite a ((a, oe) :: pn)).env = (false, eval e (X.suite a ((a, oe) :: pn)).env) :: starEach [.Tuple es x1 tpos] (X.suite a ((a, oe) :: pn)).env := by rfl)
    (hpl : (backTo pos (starEach [.Tuple es x1 tpos] (X.suite a ((a, oe) :: pn)).env)).any (·.1) = false := by rfl) (hs2 : starEach [.Tuple es x1 tpos] (X.suite a ((a, oe) :: pn)).env = (false, eval (.Tuple es x1 tpos) (X.suite a ((a, oe) :: pn)).env) :: starEach [] (X.suite a ((a, oe) :: pn)).env := by rfl) :
    PE2 (X.suite a ((a, oe) :: pn)) (.Call (.Name "isinstance" p) [e, .Tuple es x1 tpos] [] pos) (tCB (rIsXT X.K a cls d) (tCons te (tCons (tTup tl) tNil))) (dIsXT X.K a C te2 tl2) :=
  ⟨pe_callB (call_isXT hz hf) hg hm hv (pa_cons he2.pe (pa_cons (pe_tup hl.pa) pa_nil hs2) he) (he := he) (hpl := hpl), fun ρ μ Q2 q I σ H hA hS Q g => he2.re ρ μ _ q I σ H hA hS _ fun x μ1 v I1 H1 q1 a1 k1 r1 => by
    refine hl.re ρ μ1 _ q1 I1 σ H1 a1 (hS.mono k1.ex) _ ?_
    rintro ys μ2 vs I2 H2 ⟨us, b, rfl, h1, hz2, h2, h3, q2⟩ a2 k2 r2
    cases (show v = _ from r1)
    refine ⟨by rw [r2.length]; exact hz2, fun tp htp => ?_⟩
    have a3 := a2.extra (o := .tup vs) htp
    obtain ⟨x1, dd, hfs, x2, x3, _⟩ := hx I2 μ2 _ a3.toAt0 a3.j
    exact ⟨C, dd, tp, hfs, vs, us, b, x1, h2, x2, x3, rfl, upd_same, h1.rel r2, h3, g _ _ _ _ _ q2 a3 ((k1.trans k2).trans (Kp.extra htp)) rfl⟩⟩
/-- the name of an own class -/
theorem e_clsN [Jx] (hg : Gl X x) (hm : X.mg x = some (.ref C)) (hdb : (x == ("__debug__" : Str)) = false := by decide) : PE2 X (.Name x p) (tC (.ref C)) (dC (.adr C)) := e_cst (pe_glob hg hm rfl hdb) fun _ => rfl
end
end Y
namespace Y
open PySem PySem.Spec PyProof.Rows L2
/-! what is not reached -/
def dNever : TS2 := fun _ _ _ => False
def dNeverE : TE2 := fun _ _ _ => False
theorem s_dead [Jx] {X : Cx} {st : Stmt} : PS2 X st (fun _ _ _ => False) dNever := ⟨⟨fun pins s σ H D I h => h.elim⟩, fun D2 ρ μ q => q.elim⟩
theorem e_dead [Jx] {X : Cx} {e : Expr} : PE2 X e (fun _ _ _ => False) dNeverE := ⟨⟨fun pins s σ H Q I h => h.elim⟩, fun ρ μ Q q => q.elim⟩
end Y

set_option Elab.async false
set_option linter.all false
set_option maxRecDepth 100000
set_option maxHeartbeats 4000000
namespace Y
open PySem PySem.Spec PyProof.Rows L2
/-! f-strings; all, any, sum, max, min of a list; xs.index(text); d.get -/
section
variable {X : Cx} {K : PySem.W.Frag} {a b c e o i : Expr} {es rest : List Expr} {ta tb tc te to ti : TE} {ta2 tb2 tc2 te2 to2 ti2 : TE2} {pos apos cpos p tpos : Pos} {tl : TA} {tl2 : TA2} {x : Str}
variable {ρ : Env2} {μ : Mu} {Q : DK} {k : Nat}
/-! ### f'..' -/
def dFmt (te : TE2) : TE2 := fun ρ μ Q => te ρ μ fun d μ1 => (∃ y, d = .str y ∧ y.length ≤ sizeLine ∧ Q (.str y) μ1) ∨ ∃ i : Int, d = .int i ∧ i.natAbs.log2 < 1920 ∧ Q (.str (toString i)) μ1
def dFmtK (Q : DK) : DK := fun d μ1 => (∃ y, d = .str y ∧ y.length ≤ sizeLine ∧ Q (.str y) μ1) ∨ ∃ i : Int, d = .int i ∧ i.natAbs.log2 < 1920 ∧ Q (.str (toString i)) μ1
theorem w_fmt (h : te2 ρ μ (dFmtK Q)) : dFmt te2 ρ μ Q := h
theorem w_fmtS {y : Str} (l : y.length ≤ sizeLine) (q : Q (.str y) μ) : dFmtK Q (.str y) μ := .inl ⟨y, rfl, l, q⟩
theorem w_fmtI {i : Int} (l : i.natAbs.log2 < 1920) (q : Q (.str (toString i)) μ) : dFmtK Q (.int i) μ := .inr ⟨i, rfl, l, q⟩
theorem e_fmt [Jx] (he : PE2 X e te te2) : PE2 X (.FormattedValue e (-1) none pos) (tFmt te) (dFmt te2) := ⟨pe_fmt he.pe, fun ρ μ Q2 q I σ H hA hS Q g => he.re ρ μ _ q I σ H hA hS _ fun d μ1 v I1 H1 q1 a1 k1 r1 => by
  rcases q1 with ⟨y, rfl, l, q1⟩ | ⟨i, rfl, l, q1⟩
  · exact .inl ⟨y, r1, l, g _ _ _ _ _ q1 a1 k1 rfl⟩
  · exact .inr ⟨i, r1, l, g _ _ _ _ _ q1 a1 k1 rfl⟩⟩
def dJs : List TE2 → Str → TE2
  | [], acc => fun _ μ Q => Q (.str acc) μ
  | t :: ts, acc => fun ρ μ Q => t ρ μ fun d μ1 => ∃ y, d = .str y ∧ (acc ++ y).length ≤ sizeLine ∧ dJs ts (acc ++ y) ρ μ1 Q
def dJsK (ts : List TE2) (acc : Str) (ρ : Env2) (Q : DK) : DK := fun d μ1 => ∃ y, d = .str y ∧ (acc ++ y).length ≤ sizeLine ∧ dJs ts (acc ++ y) ρ μ1 Q
theorem w_js0 {acc : Str} (q : Q (.str acc) μ) : dJs [] acc ρ μ Q := q
theorem w_js {t : TE2} {ts : List TE2} {acc : Str} (h : t ρ μ (dJsK ts acc ρ Q)) : dJs (t :: ts) acc ρ μ Q := h
theorem w_jsK {ts : List TE2} {acc y : Str} (l : (acc ++ y).length ≤ sizeLine) (q : dJs ts (acc ++ y) ρ μ Q) : dJsK ts acc ρ Q (.str y) μ := ⟨y, rfl, l, q⟩
inductive PJ2 [Jx] (X : Cx) : List Expr → List TE → List TE2 → Prop where
  | nil : PJ2 X [] [] []
  | cons {e : Expr} {t : TE} {t2 : TE2} {es : List Expr} {ts : List TE} {ts2 : List TE2} (h : PE2 X e t t2) (r : PJ2 X es ts ts2) : PJ2 X (e :: es) (t :: ts) (t2 :: ts2)
theorem PJ2.pj [Jx] {es : List Expr} {ts : List TE} {ts2 : List TE2} (h : PJ2 X es ts ts2) : PJ X es ts := by
  induction h with
  | nil => exact .nil
  | cons h r ih => exact .cons h.pe ih
theorem PJ2.re [Jx] {es : List Expr} {ts : List TE} {ts2 : List TE2} (h : PJ2 X es ts ts2) : ∀ (acc : Str) ρ μ Q2, dJs ts2 acc ρ μ Q2 → ∀ I σ H, At X.K μ I H → Slots X.K I ρ σ → ∀ Q : VK, Go X.K I μ H Q2 Q → tJs ts acc σ H fun out H1 => Q (.str out) H1 := by
  induction h with
  | nil => intro acc ρ μ Q2 q I σ H hA hS Q g; exact g _ _ _ _ _ q hA Kp.refl rfl
  | cons h r ih =>
    intro acc ρ μ Q2 q I σ H hA hS Q g
    refine h.re ρ μ _ q I σ H hA hS _ fun d μ1 v I1 H1 q1 a1 k1 r1 => ?_
    obtain ⟨y, rfl, l, q1⟩ := q1
    exact ⟨y, r1, l, ih _ ρ μ1 Q2 q1 I1 σ H1 a1 (hS.mono k1.ex) Q (g.past k1)⟩
theorem e_joined [Jx] {v1 v2 : Expr} {ts : List TE} {ts2 : List TE2} (h : PJ2 X (v1 :: v2 :: rest) ts ts2) : PE2 X (.JoinedStr (v1 :: v2 :: rest) pos) (fun σ H Q => tJs ts Str.empty σ H fun out H1 => Q (.str out) H1) (dJs ts2 Str.empty) :=
  ⟨pe_joined h.pj, fun ρ μ Q2 q I σ H hA hS Q g => h.re _ ρ μ Q2 q I σ H hA hS Q g⟩
theorem e_joined1 [Jx] (he : PE2 X e te te2) : PE2 X (.JoinedStr [e] pos) te te2 := ⟨pe_joined1 he.pe, he.re⟩
/-! ### of a list of truths, of whole numbers -/
def dAllB (g : List Bool → Bool) : DRC := fun xs μ Q => ∃ (y : D) (bs : List Bool), xs = [y] ∧ asL μ y = some (bs.map D.bl) ∧ Q (.bl (g bs)) μ
theorem w_allB {g : List Bool → Bool} {y : D} {bs : List Bool} (h : asL μ y = some (bs.map D.bl)) (q : Q (.bl (g bs)) μ) : dAllB g [y] μ Q := ⟨y, bs, rfl, h, q⟩
theorem rc_all [Jx] : RC K (rAll K) (dAllB fun bs => bs.all id) := fun xs μ Q2 q I H vs hA r Q k => by
  obtain ⟨y, bs, rfl, h, q⟩ := q
  obtain ⟨v, rfl, rv⟩ := r.one_inv
  obtain ⟨p, ws, rfl, h1, h2⟩ := asL_at hA rv h
  cases h2.bls_inv
  exact ⟨p, bs, rfl, SqL.of h1, k _ _ _ _ _ q hA Kp.refl rfl⟩
theorem rc_any [Jx] : RC K (rAny K) (dAllB fun bs => bs.any id) := fun xs μ Q2 q I H vs hA r Q k => by
  obtain ⟨y, bs, rfl, h, q⟩ := q
  obtain ⟨v, rfl, rv⟩ := r.one_inv
  obtain ⟨p, ws, rfl, h1, h2⟩ := asL_at hA rv h
  cases h2.bls_inv
  exact ⟨p, bs, rfl, SqL.of h1, k _ _ _ _ _ q hA Kp.refl rfl⟩
theorem e_all [Jx] (hc : X.calm = true) (hg : Gl X "all") (hm : X.mg "all" = none) (ha : PA2 X [e] tl tl2) (hv : bootBuiltins "all" = some (.builtin "all") := by decide +kernel) (he : starEach [e] X.env = (false, eval e X.env) :: starEach [] X.env := by rfl) :
    PE2 X (.Call (.Name "all" p) [e] [] pos) (tCB (rAll X.K) tl) (dCB (dAllB fun bs => bs.all id) tl2) := e_cb (cr_all hc) rc_all hg hm hv ha (he := he)
theorem e_any [Jx] (hc : X.calm = true) (hg : Gl X "any") (hm : X.mg "any" = none) (ha : PA2 X [e] tl tl2) (hv : bootBuiltins "any" = some (.builtin "any") := by decide +kernel) (he : starEach [e] X.env = (false, eval e X.env) :: starEach [] X.env := by rfl) :
    PE2 X (.Call (.Name "any" p) [e] [] pos) (tCB (rAny X.K) tl) (dCB (dAllB fun bs => bs.any id) tl2) := e_cb (cr_any hc) rc_any hg hm hv ha (he := he)
def dSumI : DRC := fun xs μ Q => ∃ (y : D) (ns : List Int), xs = [y] ∧ asL μ y = some (ns.map D.int) ∧ Q (.int ns.sum) μ
theorem w_sumI {y : D} {ns : List Int} (h : asL μ y = some (ns.map D.int)) (q : Q (.int ns.sum) μ) : dSumI [y] μ Q := ⟨y, ns, rfl, h, q⟩
theorem rc_sum [Jx] : RC K (rSum K) dSumI := fun xs μ Q2 q I H vs hA r Q k => by
  obtain ⟨y, ns, rfl, h, q⟩ := q
  obtain ⟨v, rfl, rv⟩ := r.one_inv
  obtain ⟨p, ws, rfl, h1, h2⟩ := asL_at hA rv h
  cases h2.ints_inv
  exact ⟨p, ns, rfl, SqL.of h1, k _ _ _ _ _ q hA Kp.refl rfl⟩
theorem e_sum [Jx] (hc : X.calm = true) (hg : Gl X "sum") (hm : X.mg "sum" = none) (ha : PA2 X [e] tl tl2) (hv : bootBuiltins "sum" = some (.builtin "sum") := by decide +kernel) (he : starEach [e] X.env = (false, eval e X.env) :: starEach [] X.env := by rfl) :
    PE2 X (.Call (.Name "sum" p) [e] [] pos) (tCB (rSum X.K) tl) (dCB dSumI tl2) := e_cb (cr_sum hc) rc_sum hg hm hv ha (he := he)
def dMaxL : DRC := fun xs μ Q => ∃ (y : D) (ns : List Int), xs = [y] ∧ asL μ y = some (ns.map D.int) ∧ 0 < ns.length ∧ ∀ m, m ∈ ns → (∀ y, y ∈ ns → y ≤ m) → Q (.int m) μ
theorem w_maxL {y : D} {ns : List Int} (h : asL μ y = some (ns.map D.int)) (l : 0 < ns.length) (q : ∀ m, m ∈ ns → (∀ y, y ∈ ns → y ≤ m) → Q (.int m) μ) : dMaxL [y] μ Q := ⟨y, ns, rfl, h, l, q⟩
theorem rc_max [Jx] : RC K (rMax K) dMaxL := fun xs μ Q2 q I H vs hA r Q k => by
  obtain ⟨y, ns, rfl, h, l, q⟩ := q
  obtain ⟨v, rfl, rv⟩ := r.one_inv
  obtain ⟨p, ws, rfl, h1, h2⟩ := asL_at hA rv h
  cases h2.ints_inv
  exact ⟨p, ns, rfl, SqL.of h1, l, fun m h3 h4 => k _ _ _ _ _ (q m h3 h4) hA Kp.refl rfl⟩
theorem e_maxL [Jx] (hc : X.calm = true) (hg : Gl X "max") (hm : X.mg "max" = none) (ha : PA2 X [e] tl tl2) (hv : bootBuiltins "max" = some (.builtin "max") := by decide +kernel) (he : starEach [e] X.env = (false, eval e X.env) :: starEach [] X.env := by rfl) :
    PE2 X (.Call (.Name "max" p) [e] [] pos) (tCB (rMax X.K) tl) (dCB dMaxL tl2) := e_cb (cr_max hc) rc_max hg hm hv ha (he := he)
/-! ### xs.index(text) -/
def dIndexS : DRM := fun x xs μ Q => ∃ (ys : List Str) (z : Str) (j : Nat), asL μ x = some (ys.map D.str) ∧ xs = [.str z] ∧ ys[j]? = some z ∧ (∀ m, m < j → ys[m]? ≠ some z) ∧ Q (.int (j : Nat)) μ
theorem w_indexS {x : D} {ys : List Str} {z : Str} (j : Nat) (h : asL μ x = some (ys.map D.str)) (h1 : ys[j]? = some z) (h2 : ∀ m, m < j → ys[m]? ≠ some z) (q : Q (.int (j : Nat)) μ) : dIndexS x [.str z] μ Q := ⟨ys, z, j, h, rfl, h1, h2, q⟩
theorem rm_indexS [Jx] : RM K (rIndex K) dIndexS := fun x xs μ Q2 q I H v vs hA rx rs Q k => by
  obtain ⟨ys, z, j, h, rfl, h1, h2, q⟩ := q
  obtain ⟨p, ws, rfl, e1, e2⟩ := asL_at hA rx h
  cases e2.strs_inv
  obtain ⟨w, rfl, rw'⟩ := rs.one_inv
  cases (show w = _ from rw')
  refine ⟨p, ys.map V.str, .str z, j, .str z, rfl, rfl, SqL.of e1, rfl, ?_, ?_, ?_, ?_, k _ _ _ _ _ q hA Kp.refl rfl⟩
  · rw [List.all_map]; exact List.all_eq_true.mpr fun _ _ => rfl
  · rw [List.getElem?_map, h1]; rfl
  · show (z == z) = true; exact beq_self_eq_true _
  · intro m z' hm e
    rw [List.getElem?_map] at e
    cases q2 : ys[m]? with
    | none => rw [q2] at e; cases e
    | some y =>
      rw [q2] at e
      cases e
      show (y == z) = false
      exact beq_eq_false_iff_ne.mpr fun z2 => h2 m hm (by rw [q2, z2])
theorem e_indexS [Jx] (ho : PE2 X o to to2) (ha : PA2 X [e] tl tl2) (hbase : attributeBase o "index" X.env (eval o X.env) = eval o X.env := by rfl)
    (hfew : ((backTo cpos (starEach [e] X.env)).all (fun x => !x.1) && (backToKw cpos (keywordEach [] X.env)).all (fun x => x.1.isSome) && decide ([e].length + ([] : List Keyword).length + (if ([] : List Keyword).isEmpty then 0 else 1) < 30)) = true := by rfl)
    (hline : (apos.endLine == cpos.line) = true := by rfl) (hs : starEach [e] X.env = (false, eval e X.env) :: starEach [] X.env := by rfl) : PE2 X (.Call (.Attribute o "index" apos) [e] [] cpos) (tBM X.K "list" (rIndex X.K) to tl) (dBM "list" dIndexS to2 tl2) :=
  e_bm PySem.F.plainAttrs_list PySem.F.slot_list_index PySem.F.type_list_index mt_index rm_indexS ho ha hbase hfew hline hs
/-! ### d.get(k), d.get(k, x) -/
def dGetD (to ti : TE2) (tx : TE2) : TE2 := fun ρ μ Q => to ρ μ fun x μ1 => (∃ a kvs, x = .adr a ∧ μ1 a = some (.dk kvs)) ∧ ti ρ μ1 fun y μ2 => tx ρ μ2 fun z μ3 => ∃ a kvs k, x = .adr a ∧ μ3 a = some (.dk kvs) ∧ y = kD k ∧ Q ((valD kvs k).getD z) μ3
end
end Y

set_option Elab.async false
set_option linter.all false
set_option maxRecDepth 100000
set_option maxHeartbeats 8000000
namespace Y
open PySem PySem.Spec PyProof.Rows L2
/-! sorted(set(xs)), xs a list of texts -/
abbrev Ent := Int × Value
abbrev Led (w : World) (t : SetTable) : Prop := w.params.followText "set-order" = true ∨ t.led = true
/-- an entry of a set of texts, its text -/
def TxE (w : World) (e : Ent) : Prop := ∃ k u, e = (hashStr w k, Value.str k u)
def txK (e : Ent) : Str := PyProof.Rows.strOf e.2
/-- the set at a, its members ks, each once -/
def TxS (w : World) (h : Heap) (a : Addr) (ks : List Str) : Prop := ∃ (o : Obj) (es : Array Ent) (ep : Nat) (t : SetTable),
  h.get? a = some o ∧ o.ExactSet ∧ o.data = .set es ep t ∧ (∀ e, e ∈ es.toList → TxE w e) ∧ (es.toList.map txK).Perm ks ∧ ks.Nodup ∧ es.size < scanBound ∧ t.fits es.size = true ∧ Ris t.place.toList ∧ Led w t
section
variable {P : Program} {w : World} {A : Around} {E : Value → Shared → Prop} {s : Shared} {a : Addr} {ks : List Str}
theorem TxE.els {l : List Ent} (g : ∀ e, e ∈ l → TxE w e) : ElemsOf (PySem.strKind P w) l := fun e he => by
  obtain ⟨k, u, rfl⟩ := g e he
  exact ⟨⟨k, strKind_is P w k u, rfl⟩, rfl⟩
theorem TxE.is {e : Ent} (g : TxE w e) (k : Str) : (PySem.strKind P w).is k e.2 = true ↔ txK e = k := by
  obtain ⟨k0, u, rfl⟩ := g
  show Value.isStrOf k (Value.str k0 u) = true ↔ k0 = k
  constructor
  · intro h
    obtain ⟨u', h'⟩ := Value.isStrOf_shape (x := k) h
    injection h' with h'
  · intro h
    subst h
    exact strKind_is P w k0 u
theorem TxS.move {h h' : Heap} (R : TxS w h a ks) (k : ∀ o, h.get? a = some o → h'.get? a = some o) : TxS w h' a ks := by
  obtain ⟨o, es, ep, t, ho, r⟩ := R
  exact ⟨o, es, ep, t, k o ho, r⟩
/-- what is stored, and laid anew where it is full -/
theorem tx_tail {g : Bool → Sem Unit} (hg : ∀ (b : Bool) (z : Shared) (N : Unit → Shared → Prop), N () z → wpAny (model P w) A (g b) N E z) {o : Obj} {es es1 : Array Ent} {ep : Nat} {t t2 : SetTable} {wd : Bool} {R : Option Bool → Shared → Prop}
    (ho : s.heap.get? a = some o) (hx : o.ExactSet) (hd : o.data = .set es ep t) (g1 : ∀ e, e ∈ es1.toList → TxE w e) (pk : (es1.toList.map txK).Perm ks) (nd : ks.Nodup) (hb : es1.size < scanBound) (hf : t2.fits es1.size = true) (hr : Ris t2.place.toList) (hl : Led w t2)
    (hR : ∀ h', Heap.SameBut a s.heap h' → TxS w h' a ks → R (some true) { s with heap := h' }) :
    wpAny (model P w) A (do
      storeSet a es1 t2
      if (!wd && t2.tooFull) = true then do
        g (relayAll t2 es1 (SetTable.grown es1.size)).2.2
        storeSet a (relayAll t2 es1 (SetTable.grown es1.size)).1 (relayAll t2 es1 (SetTable.grown es1.size)).2.1
        pure (some true)
      else pure (some true)) R E s := by
  have e1 := store_at (es' := es1) (t' := t2) ho hd; have u1 := Heap.SameBut.update s.heap a (Obj.putSet es1 t2)
  refine wpAny_bind (wpAny_storeSet_of ho hd ?_ (fits_of_scanBound hb)); split
  · have pm := relayAll_perm t2 es1 (SetTable.grown es1.size); have f3 := relayAll_fits t2 es1 (SetTable.grown es1.size); have r3 := relayAll_ris t2 es1 (SetTable.grown es1.size); have l3 := relayAll_led t2 es1 (SetTable.grown es1.size)
    generalize relayAll t2 es1 (SetTable.grown es1.size) = Z at pm f3 r3 l3 ⊢
    obtain ⟨es2, t3, gave⟩ := Z; dsimp only at pm f3 r3 l3 ⊢
    have z2 : es2.size = es1.size := by
      have := pm.length_eq; simpa using this
    have b2 : es2.size < scanBound := z2 ▸ hb
    refine wpAny_bind (hg _ _ _ (wpAny_bind (wpAny_storeSet_of e1 rfl ?_ (fits_of_scanBound b2))))
    refine wpAny_pure (hR _ (u1.trans (Heap.SameBut.update _ a _)) ⟨_, es2, _, t3, store_at (es' := es2) (t' := t3) e1 rfl, hx, rfl, fun e he => g1 e (pm.mem_iff.mp he), (pm.map txK).trans pk, nd, b2, f3, r3, hl.imp id fun z => by rw [l3]; exact z⟩)
  · exact wpAny_pure (hR _ u1 ⟨_, es1, _, t2, e1, hx, rfl, g1, pk, nd, hb, hf, hr, hl⟩)
/-- one more, or one that is there -/
theorem tx_add {k : Str} {u : Tok} {Q : Bool → Shared → Prop} (R : TxS w s.heap a ks) (room : ks.length + 1 < scanBound)
    (hQ : ∀ (b : Bool) (h' : Heap), Heap.SameBut a s.heap h' → TxS w h' a (if k ∈ ks then ks else k :: ks) → Q b { s with heap := h' }) : wpAny (model P w) A (setAddHashed a (.str k u) ((PySem.strKind P w).hash k)) Q E s := by
  obtain ⟨o, es, ep, t, ho, hx, hd, g, pk, nd, hb, hf, hr, hl⟩ := R
  have hk : (PySem.strKind P w).is k (.str k u) = true := strKind_is P w k u
  have hc : (Value.str k u).scannable = true := rfl
  have he : ElemsOf (PySem.strKind P w) es.toList := TxE.els g
  have mem : k ∈ ks ↔ ∃ e ∈ es.toList, (PySem.strKind P w).is k e.2 = true := by
    rw [← pk.mem_iff, List.mem_map]
    exact ⟨fun ⟨e, h1, h2⟩ => ⟨e, h1, (TxE.is (g e h1) k).2 h2⟩, fun ⟨e, h1, h2⟩ => ⟨e, h1, (TxE.is (g e h1) k).1 h2⟩⟩
  unfold setAddHashed setAddHashedIn
  refine wpAny_holding (wpAny_bind (wpAny_setState_of ho hd hf ?_)); dsimp only
  rw [byScan_of hc hb he]; simp only [↓reduceIte]
  unfold setAddByScan
  refine wpAny_bind (wpAny_bind (wpAny_rule (wpAny_bind (wpAny_setScan_of hk ho hd hf he ?_))))
  cases q : List.findIdx? (fun e => (PySem.strKind P w).is k e.2) es.toList with
  | some j =>
    dsimp only
    obtain ⟨hj, pj, _⟩ := List.findIdx?_eq_some_iff_getElem.mp q
    have hin : k ∈ ks := mem.2 ⟨es.toList[j], List.getElem_mem hj, pj⟩
    refine wpAny_pure (wpAny_pure (hQ _ s.heap (Heap.SameBut.refl a s.heap) ?_))
    rw [if_pos hin]
    exact ⟨o, es, ep, t, ho, hx, hd, g, pk, nd, hb, hf, hr, hl⟩
  | none =>
    dsimp only
    have hout : k ∉ ks := fun z => by
      obtain ⟨e, h1, h2⟩ := mem.1 z
      have c := List.findIdx?_eq_none_iff.mp q e h1
      rw [h2] at c; cases c
    have gw : ∀ (b : Bool) {z : Shared} {N : Unit → Shared → Prop}, N () z → wpAny (model P w) A (match b with | true => rule "set.scan.the-table-gave-way" | false => pure ()) N E z := fun b z N n => by
      cases b
      · exact wpAny_pure n
      · exact wpAny_rule n
    have pm := layNew_perm t es ((PySem.strKind P w).hash k) (.str k u); have f1 := layNew_fits t es ((PySem.strKind P w).hash k) (.str k u)
    have r1 := layNew_ris t es ((PySem.strKind P w).hash k) (.str k u) hr; have l1 := layNew_led t es ((PySem.strKind P w).hash k) (.str k u)
    generalize layNew t es ((PySem.strKind P w).hash k) (.str k u) = Z at pm f1 r1 l1 ⊢
    obtain ⟨es1, t1, wd, gave⟩ := Z; dsimp only at pm f1 r1 l1 ⊢
    rw [Array.toList_push] at pm
    have pc : es1.toList.Perm (((PySem.strKind P w).hash k, Value.str k u) :: es.toList) := pm.trans (List.perm_append_singleton _ _)
    have g1 : ∀ e, e ∈ es1.toList → TxE w e := fun e h1 => by
      rcases List.mem_cons.mp (pc.mem_iff.mp h1) with z | z
      · exact ⟨k, u, z⟩
      · exact g e z
    have pk1 : (es1.toList.map txK).Perm (k :: ks) := (pc.map txK).trans (pk.cons k)
    have nd1 : (k :: ks).Nodup := List.nodup_cons.mpr ⟨hout, nd⟩
    have z1 : es1.size = ks.length + 1 := by
      have := pk1.length_eq; simpa using this
    have b1 : es1.size < scanBound := z1 ▸ room
    have led1 : Led w t1 := hl.imp id fun z => by rw [l1]; exact z
    have fin : ∀ h', Heap.SameBut a s.heap h' → TxS w h' a (k :: ks) → Q true { s with heap := h' } := fun h' sb r => hQ true h' sb (by rw [if_neg hout]; exact r)
    refine wpAny_bind (gw _ ?_); split
    · refine wpAny_bind ?_
      rw [hashByValue_scannable 8 hc]
      refine wpAny_pure (tx_tail (ks := k :: ks) ?_ ho hx hd g1 pk1 nd1 b1 ?_ ?_ ?_ fun h' sb r => by dsimp only; exact wpAny_pure (fin h' sb r))
      · intro b z N n; cases b <;> first | exact wpAny_pure n | exact wpAny_rule n
      · first | (split <;> first | exact f1 | exact SetTable.fits_plain_off f1) | exact f1
      · first | (split <;> exact r1) | exact r1
      · first | (split <;> exact led1) | exact led1
    · refine wpAny_bind (wpAny_pure ?_); simp only [↓reduceIte]
      refine tx_tail (ks := k :: ks) ?_ ho hx hd g1 pk1 nd1 b1 f1 r1 led1 fun h' sb r => by dsimp only; exact wpAny_pure (fin h' sb r)
      intro b z N n; cases b <;> first | exact wpAny_pure n | exact wpAny_rule n
end
/-- each once -/
def dd (ks : List Str) (k : Str) : List Str := if k ∈ ks then ks else k :: ks
theorem dd_mem {ks : List Str} {k x : Str} : x ∈ dd ks k ↔ x = k ∨ x ∈ ks := by
  unfold dd
  split
  · exact ⟨.inr, fun h => h.elim (fun e => by rw [e]; assumption) id⟩
  · exact List.mem_cons
theorem dd_len {ks : List Str} {k : Str} : (dd ks k).length ≤ ks.length + 1 := by
  unfold dd
  split
  · exact Nat.le_succ _
  · exact Nat.le_refl _
theorem dds_mem {x : Str} : ∀ (xs ks : List Str), x ∈ xs.foldl dd ks ↔ x ∈ xs ∨ x ∈ ks
  | [], ks => by simp
  | k :: xs, ks => by
    rw [List.foldl_cons, dds_mem xs, dd_mem, List.mem_cons]
    exact ⟨fun h => h.elim (fun a => .inl (.inr a)) fun h => h.elim (fun a => .inl (.inl a)) .inr, fun h => h.elim (fun h => h.elim (fun a => .inr (.inl a)) .inl) fun a => .inr (.inr a)⟩
theorem dds_len : ∀ (xs ks : List Str), (xs.foldl dd ks).length ≤ xs.length + ks.length
  | [], ks => by simp
  | k :: xs, ks => by
    rw [List.foldl_cons, List.length_cons]
    have h1 := dds_len xs (dd ks k); have h2 := @dd_len ks k
    omega
section
variable {P : Program} {w : World} {A : Around} {E : Value → Shared → Prop} {s : Shared}
theorem tx_fresh {h : Heap} {a : Addr} (ho : h.get? a = some { cls := .type "set", dict := none, data := .set #[] 0 (.fresh 0 0 (!w.params.followText "set-order")) }) : TxS w h a [] := by
  refine ⟨_, #[], 0, _, ho, ⟨rfl, rfl, rfl⟩, rfl, fun e z => by simp at z, by simp, List.nodup_nil, by decide, rfl, List.Pairwise.nil, ?_⟩
  show _ ∨ (!w.params.followText "set-order") = true
  cases q : w.params.followText "set-order"
  · exact .inr rfl
  · exact .inl rfl
/-- the loop that takes each of a row in -/
theorem tx_loop {J S : Addr} {fp wr : List Addr} {G : Array GenState → Array GenState → Prop} {n : Nat} {Pv : Nat → Value → Prop} {St : Nat → Shared → Prop} {R : Result → Shared → Prop} (W : WalksS P w A.in1 J fp wr G n Pv St) (off : S ∉ fp)
    (xs : List Str) (hn : n = xs.length) (hb : xs.length + 1 < scanBound) (hv : ∀ i v, Pv i v → ∃ k t, xs[i]? = some k ∧ v = .str k t) :
    ∀ (m i : Nat) (s : Shared), n - i = m → i ≤ n → St i s → TxS w s.heap S ((xs.take i).foldl dd []) → (∀ s', Moved (S :: wr) G s s' → TxS w s'.heap S (xs.foldl dd []) → R (.ok (.ret .none)) s') →
      codeAny (model P w) A (.builtin "set.update.loop" ⟨[.ref S, .ref J], []⟩) R s := by
  have offW : S ∉ wr := fun h => off (W.sub _ h)
  have more : ∀ b, b ∈ wr → b ∈ S :: wr := fun b h => List.mem_cons_of_mem _ h
  intro m; induction m with
  | zero =>
    intro i s h1 h2 st hS hR
    obtain rfl : i = n := by omega
    refine codeAny_builtin F.entry_set_update_loop ?_; rw [Around.under_plainId F.plain_set_update_loop _]
    show wpAny _ A.in1 (pyNext (.ref J) >>= _) _ _ s
    refine wpAny_bind (W.done s _ _ st fun s' hm => ?_); show wpAny _ A.in1 (ret Value.none) _ _ s'
    rw [List.take_of_length_le (by omega)] at hS
    exact wpAny_pure (hR s' (hm.mono more) (hS.move fun o e => hm.heap S o offW e))
  | succ m ih =>
    intro i s h1 h2 st hS hR
    have lt : i < n := by omega
    refine codeAny_builtin F.entry_set_update_loop ?_; rw [Around.under_plainId F.plain_set_update_loop _]
    show wpAny _ A.in1 (pyNext (.ref J) >>= _) _ _ s
    refine wpAny_bind (W.item i s _ _ lt st fun v s' hP st' hm => ?_)
    obtain ⟨z, t, hz, rfl⟩ := hv i v hP
    have hS' : TxS w s'.heap S ((xs.take i).foldl dd []) := hS.move fun o e => hm.heap S o offW e
    show wpAny _ A.in1 (holding [Value.str z t] (setAdd S (.str z t)) >>= _) _ _ s'
    refine wpAny_bind (wpAny_holding ?_); unfold setAdd
    refine wpAny_holding (wpAny_bind ((PySem.strKind P w).pyHash (k := z) (strKind_is _ _ _ _) ?_))
    have len : ((xs.take i).foldl dd []).length ≤ i := by
      have := dds_len (xs.take i) []; rw [List.length_nil, List.length_take] at this; omega
    refine tx_add (s := { s' with toks := s'.toks + 1 }) hS' (by omega) fun b h' sb hS2 => ?_
    have hS3 : TxS w h' S ((xs.take (i + 1)).foldl dd []) := by
      rw [List.take_add_one, hz, List.foldl_append]
      exact hS2
    refine wpAny_pure ⟨plainId_quiet F.plain_set_update_loop _, ih (i + 1) _ (by omega) lt (W.frame _ s' _ _ st' (Nat.le_succ _) fun c hc o e => ?_) hS3 fun s2 hm2 hS4 => ?_⟩
    · rw [sb.2 c (fun h : c = S => off (by rw [← h]; exact hc))]; exact e
    · refine hR s2 (Moved.trans W.gtrans ((hm.mono more).then_heap (Nat.le_succ _) fun c o hc e => ?_) hm2) hS4
      rw [sb.2 c (fun h : c = S => hc (by rw [h]; exact List.mem_cons_self))]; exact e
/-- set(xs) -/
theorem tx_set {l : Addr} {its : Array Value} {xs : List Str} {Q : Value → Shared → Prop} (hh : A.handled = none) (hl : s.heap.IsList l its) (hi : StrsAre its.toList xs) (hb : xs.length + 1 < scanBound)
    (h : ∀ (h' : Heap) (tk : Nat), TxS w h' s.heap.objs.size (xs.foldl dd []) → (∀ b o, s.heap.get? b = some o → h'.get? b = some o) → Q (.ref s.heap.objs.size) { s with heap := h', toks := tk }) :
    wpAny (model P w) A (call (.type "set") [.ref l]) Q E s := by
  obtain ⟨c, tl, hmro⟩ := F.called_set.mro
  have hmade := F.called_set.made; have hsub := F.called_set.sub; have c1 := F.called_set.notType; have c2 := F.called_set.canCreate; have c3 := F.typeCall_set_1 (.ref l)
  refine wpAny_call (codeAny_of_tree ?_); show wpAny _ _ (callAny (.type "set") _) _ _ _
  refine wpAny_pure ⟨Code.quiet_builtin _ (by decide +kernel), codeAny_builtin F.entry_type_call ?_⟩; rw [Around.under_plain (weight_type_call_type "set" [.ref l] []) rfl]
  repeat (any_goals (first | assumption | wp_step))
  let new : Obj := { cls := .type "set", dict := none, data := .set #[] 0 (.fresh 0 0 (!w.params.followText "set-order")) }
  refine codeAny_mono (code_set_led1 (.ref l) (E := E) (Q₁ := fun obj z => obj = .ref s.heap.objs.size ∧ z = { s with heap := s.heap.push new }) ⟨rfl, rfl⟩) fun r z hr => ?_
  cases r with
  | error e => exact hr
  | ok fl =>
    cases fl with
    | ret obj =>
      obtain ⟨rfl, rfl⟩ := hr
      have nS : (s.heap.push new).get? s.heap.objs.size = some new := Heap.get?_push_size _ rfl
      have hT : Shared.TypeIs { s with heap := s.heap.push new } (.ref s.heap.objs.size) "set" := ⟨_, nS, rfl⟩
      have d1 := F.called_set.init.lookup; have d2 := F.called_set.init.bind (.ref s.heap.objs.size)
      repeat (any_goals (first | assumption | wp_step))
      refine codeAny_mono (codeAny_call_builtin (R := wants (fun r z2 => r = .none ∧ ∃ h' tk, z2 = { s with heap := h', toks := tk } ∧ TxS w h' s.heap.objs.size (xs.foldl dd []) ∧ (∀ b o, s.heap.get? b = some o → h'.get? b = some o)) E) F.called_set.init.plain F.entry_set_init (check_set_init_1 hT ?_)) fun r2 z2 hr2 => ?_
      · obtain ⟨⟨oc, od, oda, osl⟩, hol, hcl, nl, hdl⟩ := hl
        simp only at hcl hdl; subst hcl hdl
        have hol' : (s.heap.push new).get? l = some { cls := .type "list", dict := od, data := .seq its nl, slots := osl } := Heap.get?_push_of_some _ hol
        have s1 := F.sub_list_set; have s2 := F.sub_list_frozenset; have s3 : (Value.type "list" == Value.type "dict") = false := by decide
        have l1 : (s.heap.push new).IsList l its := ⟨_, hol', rfl, nl, rfl⟩
        unfold Builtin.«set.__init__» noKeywords Builtin.Frozenset.updateFrom
        generalize hPI : pyIter = PI
        wp_walk
        subst hPI
        refine wpAny_pyIter_list l1 (wpAny_bind (wpAny_runValue ?_))
        have lS : l < s.heap.objs.size := Heap.lt_size hol
        have hA3 : A.in1.in1.in1.handled = none := by simp [hh]
        have ne : l ≠ (s.heap.push new).objs.size := by rw [Heap.size_push]; exact Nat.ne_of_lt (Nat.lt_succ_of_lt lS)
        have off : s.heap.objs.size ∉ [(s.heap.push new).objs.size, l] := by
          rw [Heap.size_push]; intro h
          rcases List.mem_cons.mp h with h | h
          · exact absurd h (Nat.ne_of_lt (Nat.lt_succ_self _))
          · exact absurd (List.mem_singleton.mp h) (Nat.ne_of_gt lS)
        have sz : its.size = xs.length := by rw [← StrsAre.len_eq hi, Array.length_toList]
        have val : ∀ (i : Nat) (v : Value), its[i]? = some v → ∃ k t, xs[i]? = some k ∧ v = .str k t := fun i v hv => by
          have lt : i < xs.length := by rw [← sz]; exact (Array.getElem?_eq_some_iff.mp hv).1
          obtain ⟨t, e⟩ := SS.strs_at hi i v (by rw [Array.getElem?_toList]; exact hv)
          exact ⟨_, t, by rw [List.getElem?_eq_getElem lt, List.getD_eq_getElem?_getD, List.getElem?_eq_getElem lt]; rfl, e⟩
        refine tx_loop ((Walks.list hA3 _ l ne its).toS) off xs sz hb val (its.size - 0) 0 _ (by omega) (Nat.zero_le _) ⟨⟨_, Heap.get?_push_size _ rfl, rfl, rfl⟩, l1.push _⟩ (tx_fresh (Heap.get?_push_of_some _ nS)) fun z hm hS => ?_
        obtain ⟨h', g2, d', tk', os'⟩ := z
        obtain rfl : g2 = s.gens := hm.gens
        obtain rfl : d' = s.drawn := hm.drawn
        obtain rfl : os' = s.os := hm.os
        show wpAny _ _ _ _ _ _
        refine wpAny_pure ?_; show wpAny _ _ (ret Value.none) _ _ _
        refine wpAny_pure ⟨rfl, h', tk', rfl, hS, fun b o e => ?_⟩
        have hlt := Heap.lt_size e
        refine hm.heap b o (fun z => ?_) (Heap.get?_push_of_some _ (Heap.get?_push_of_some _ e))
        rcases List.mem_cons.mp z with z | z
        · exact absurd z (Nat.ne_of_lt hlt)
        · have z2 := List.mem_singleton.mp z; rw [Heap.size_push] at z2; exact absurd z2 (Nat.ne_of_lt (Nat.lt_succ_of_lt hlt))
      · cases r2 with
        | error e => exact hr2
        | ok fl2 =>
          cases fl2 with
          | ret r =>
            obtain ⟨rfl, h', tk, rfl, hS', hk'⟩ := hr2
            repeat (any_goals (first | assumption | wp_step))
            exact h _ _ hS' hk'
          | _ => exact hr2.elim
    | _ => exact hr.elim
end
end Y

set_option Elab.async false
set_option linter.all false
set_option maxRecDepth 100000
set_option maxHeartbeats 8000000
namespace Y
open PySem PySem.Spec PyProof.Rows L2
/-! the rising list of some texts, each once -/
def ltS (x y : Str) : Bool := ltCps x.cps.toList y.cps.toList
theorem ltS_iff {x y : Str} : ltS x y = true ↔ x.cps.toList < y.cps.toList := by
  unfold ltS; rw [ltCps_eq]; exact decide_eq_true_iff
theorem str_ext {x y : Str} (h : x.cps.toList = y.cps.toList) : x = y := by
  obtain ⟨⟨a⟩⟩ := x; obtain ⟨⟨b⟩⟩ := y
  cases (show a = b from h); rfl
theorem ltS_irr (x : Str) : ltS x x = false := Bool.eq_false_iff.mpr fun h => List.lt_irrefl _ (ltS_iff.mp h)
theorem ltS_trans {x y z : Str} (h : ltS x y = true) (h2 : ltS y z = true) : ltS x z = true := ltS_iff.mpr (List.lt_trans (ltS_iff.mp h) (ltS_iff.mp h2))
theorem ltS_total {x y : Str} (h : ltS x y = false) (ne : x ≠ y) : ltS y x = true := by
  refine ltS_iff.mpr ?_
  have h1 : ¬ x.cps.toList < y.cps.toList := fun z => by rw [ltS_iff.mpr z] at h; cases h
  have h2 : y.cps.toList ≤ x.cps.toList := List.not_lt.mp h1
  exact Std.lt_of_le_of_ne h2 fun z => ne (str_ext z.symm)
def insU (x : Str) : List Str → List Str
  | [] => [x]
  | y :: r => if ltS x y then x :: y :: r else if x = y then y :: r else y :: insU x r
def uqs : List Str → List Str
  | [] => []
  | x :: r => insU x (uqs r)
def Rsg (l : List Str) : Prop := l.Pairwise fun x y => ltS x y = true
theorem insU_mem {x z : Str} : ∀ {l : List Str}, z ∈ insU x l ↔ z = x ∨ z ∈ l
  | [] => by simp [insU]
  | y :: r => by
    unfold insU
    split
    · exact List.mem_cons
    · split
      · rename_i e
        rw [e]; exact ⟨.inr, fun h => h.elim (fun e => e ▸ List.mem_cons_self) id⟩
      · rw [List.mem_cons, insU_mem, List.mem_cons]
        exact ⟨fun h => h.elim (fun a => .inr (.inl a)) fun h => h.elim .inl fun a => .inr (.inr a), fun h => h.elim (fun a => .inr (.inl a)) fun h => h.elim .inl fun a => .inr (.inr a)⟩
theorem insU_rsg {x : Str} : ∀ {l : List Str}, Rsg l → Rsg (insU x l)
  | [], _ => List.pairwise_singleton _ _
  | y :: r, h => by
    obtain ⟨h1, h2⟩ := List.pairwise_cons.mp h
    unfold insU
    split
    · rename_i e
      exact List.pairwise_cons.mpr ⟨fun z hz => (List.mem_cons.mp hz).elim (fun q => q ▸ e) fun q => ltS_trans e (h1 z q), h⟩
    · rename_i e
      split
      · exact h
      · rename_i ne
        refine List.pairwise_cons.mpr ⟨fun z hz => (insU_mem.mp hz).elim (fun q => ?_) (h1 z), insU_rsg h2⟩
        rw [q]; exact ltS_total (Bool.eq_false_iff.mpr e) ne
theorem uqs_mem {z : Str} : ∀ {l : List Str}, z ∈ uqs l ↔ z ∈ l
  | [] => Iff.rfl
  | x :: r => by
    show z ∈ insU x (uqs r) ↔ _
    rw [insU_mem, uqs_mem, List.mem_cons]
theorem uqs_rsg : ∀ {l : List Str}, Rsg (uqs l)
  | [] => List.Pairwise.nil
  | x :: r => insU_rsg uqs_rsg
theorem rsg_eq : ∀ {l m : List Str}, Rsg l → Rsg m → (∀ z, z ∈ l ↔ z ∈ m) → l = m
  | [], [], _, _, _ => rfl
  | [], y :: m, _, _, h => by have := (h y).2 List.mem_cons_self; cases this
  | x :: l, [], _, _, h => by have := (h x).1 List.mem_cons_self; cases this
  | x :: l, y :: m, h1, h2, h => by
    obtain ⟨a1, a2⟩ := List.pairwise_cons.mp h1
    obtain ⟨b1, b2⟩ := List.pairwise_cons.mp h2
    have e : x = y := by
      rcases List.mem_cons.mp ((h x).1 List.mem_cons_self) with q | q
      · exact q
      · rcases List.mem_cons.mp ((h y).2 List.mem_cons_self) with q2 | q2
        · exact q2.symm
        · have := ltS_trans (b1 x q) (a1 y q2)
          rw [ltS_irr] at this; cases this
    subst e
    congr 1
    refine rsg_eq a2 b2 fun z => ⟨fun hz => ?_, fun hz => ?_⟩
    · rcases List.mem_cons.mp ((h z).1 (List.mem_cons_of_mem _ hz)) with q | q
      · subst q; have := a1 z hz; rw [ltS_irr] at this; cases this
      · exact q
    · rcases List.mem_cons.mp ((h z).2 (List.mem_cons_of_mem _ hz)) with q | q
      · subst q; have := b1 z hz; rw [ltS_irr] at this; cases this
      · exact q
/-- rising, none twice -/
theorem srt_rsg : ∀ {l : List Str}, sortedS l = true → l.Nodup → Rsg l
  | [], _, _ => List.Pairwise.nil
  | x :: r, h, d => by
    have go : ∀ (r : List Str) (x : Str), risingS x r = true → (x :: r).Nodup → Rsg (x :: r) := fun r => by
      induction r with
      | nil => intro x _ _; exact List.pairwise_singleton _ _
      | cons y r ih =>
        intro x h d
        obtain ⟨h1, h2⟩ := Bool.and_eq_true_iff.mp (show (!ltS y x && risingS y r) = true from h)
        obtain ⟨d1, d2⟩ := List.nodup_cons.mp d
        have hr := ih y h2 d2
        have xy : ltS x y = true := ltS_total (by simpa using h1) fun e => d1 (e ▸ List.mem_cons_self)
        exact List.pairwise_cons.mpr ⟨fun z hz => (List.mem_cons.mp hz).elim (fun q => q ▸ xy) fun q => ltS_trans xy ((List.pairwise_cons.mp hr).1 z q), hr⟩
    exact go r x h d
theorem dds_nodup : ∀ {xs ks : List Str}, ks.Nodup → (xs.foldl dd ks).Nodup
  | [], ks, h => h
  | k :: xs, ks, h => by
    rw [List.foldl_cons]
    refine dds_nodup ?_
    unfold dd
    split
    · exact h
    · rename_i hk
      exact List.nodup_cons.mpr ⟨hk, h⟩
theorem uqs_of {xs ss : List Str} (p : ss.Perm (xs.foldl dd [])) (h : sortedS ss = true) : ss = uqs xs :=
  rsg_eq (srt_rsg h (p.nodup_iff.mpr (dds_nodup List.nodup_nil))) uqs_rsg fun z => by rw [p.mem_iff, dds_mem, uqs_mem]; simp
theorem uqs_len {l : List Str} : (uqs l).length ≤ l.length := by
  induction l with
  | nil => exact Nat.le_refl _
  | cons x r ih =>
    have go : ∀ l : List Str, (insU x l).length ≤ l.length + 1 := fun l => by
      induction l with
      | nil => exact Nat.le_refl _
      | cons y r ih2 =>
        unfold insU
        split
        · exact Nat.le_refl _
        · split
          · exact Nat.le_succ _
          · exact Nat.succ_le_succ ih2
    exact Nat.le_trans (go _) (Nat.succ_le_succ ih)
section
variable {P : Program} {w : World} {A : Around} {E : Value → Shared → Prop} {s : Shared} {a : Addr} {ks : List Str}
/-- sorted(s), s a set of texts -/
theorem tx_sorted {Q : Value → Shared → Prop} (R : TxS w s.heap a ks) (hh : A.handled = none) (h64 : ks.length < 64)
    (hQ : ∀ (z : Shared) (p : Addr) (out : Array Value) (c : Nat) (ss : List Str), (∀ b o, s.heap.get? b = some o → z.heap.get? b = some o) → z.gens = s.gens → z.os = s.os → s.heap.objs.size ≤ p → z.heap.get? p = some (seqObj "list" out c) → StrsAre out.toList ss → ss.Perm ks → sortedS ss = true → Q (.ref p) z) :
    wpAny (model P w) A (call (.builtin "sorted") [.ref a]) Q E s := by
  obtain ⟨o, es, ep, t, ho, hx, hd, g, pk, nd, hb, hf, hr, hl⟩ := R
  refine Calls.call_function_entry kind_sorted plain_sorted entry_sorted (args_sorted1 _) ?_; unfold Builtin.«sorted»
  refine wpAny_bind (m := checkCount "sorted" 1 1 _) (wpAny_pure (wpAny_bind (collect_set (A := A.in1) hh ⟨o, ho, hx.1, hd⟩ hf hb hr hl fun z vs k1 hz g1 o1 pm => ?_)))
  have pz : (vs.map PyProof.Rows.strOf).Perm (es.toList.map txK) := by
    have q := pm.map PyProof.Rows.strOf
    rw [List.map_map] at q
    exact q
  have hI : StrsAre vs (vs.map PyProof.Rows.strOf) := strsAre_map vs fun v hv => by
    obtain ⟨e, he, q⟩ := List.mem_map.mp (pm.mem_iff.mp hv)
    obtain ⟨k, u, rfl⟩ := g e he
    exact ⟨k, u, q.symm⟩
  have hn : vs.length < 64 := by
    have := (pz.trans pk).length_eq; rw [List.length_map] at this; omega
  refine wpAny_bind (wpAny_newList ?_ (by rw [sizeLine_eq]; omega))
  have oL : (z.heap.push (seqObj "list" vs.toArray 0)).get? z.heap.objs.size = some (seqObj "list" vs.toArray 0) := Heap.get?_push_size _ rfl
  refine wpAny_bind (wpAny_holding (wpAny_call_entry slot_list_sort ⟨_, oL, rfl⟩ entry_list_sort (list_sort_treeK strKind_oneLt oL hI.keysOf (fun v1 v2 r e => keyKind_strs (by rw [← e]; exact hI)) hn fun st' q1 q2 => ⟨_, rfl, ?_⟩) (args_list_sort _)))
  obtain ⟨ss, b1, b2, b3⟩ := sorted_out_str hI q1 q2
  obtain ⟨c, hc⟩ := sortedHeap_at (vs := vs) (out := (arrOf st').map (·.2)) oL
  refine wpAny_pure ⟨_, rfl, hQ _ z.heap.objs.size _ c ss (fun b u e => ?_) g1 o1 hz hc b1 (b2.trans (pz.trans pk)) b3⟩
  have q := k1 b u e
  have lt := Heap.lt_size q
  show (sortedHeap (z.heap.push (seqObj "list" vs.toArray 0)) z.heap.objs.size vs _).get? b = some u
  rw [sortedHeap_old (Nat.ne_of_lt lt) (by rw [size_push']; exact Nat.lt_succ_of_lt lt)]; exact Heap.get?_push_of_some _ q
end
section
variable {X : Cx} {K : PySem.W.Frag} {a : Expr} {ta : TE} {ta2 : TE2} {p p2 q pos : Pos} {ρ : Env2} {μ : Mu} {Q : DK}
/-- sorted(set(xs)) -/
def tSS (K : PySem.W.Frag) (ta : TE) : TE := fun σ H Q => ta σ H fun x H1 => ∃ (l : Addr) (xs : List Str), x = .ref l ∧ SqL K H1 l (xs.map V.str) ∧ xs.length < 64 ∧ ∀ p : Addr, H1 p = none → Q (.ref p) (upd H1 p (.lst ((uqs xs).map V.str)))
theorem pe_sortedSet (hc : X.calm = true) (hg : Gl X "sorted") (hm : X.mg "sorted" = none) (hg2 : Gl X "set") (hm2 : X.mg "set" = none) (ha : PE X a ta) (hv : bootBuiltins "sorted" = some (.builtin "sorted") := by decide +kernel) (hv2 : bootBuiltins "set" = some (.type "set") := by decide +kernel)
    (na : starEach [a] X.env = (false, eval a X.env) :: starEach [] X.env := by rfl) : PE X (.Call (.Name "sorted" p) [.Call (.Name "set" p2) [a] [] q] [] pos) (tSS X.K ta) := by
  refine ⟨fun pins s σ H Q I h => ?_⟩
  refine Call_ (ld_blt I hg hm hv ?_)
  refine PyProof.Rows.callWith_builtin1 (PyProof.Rows.args_cons ?_ rfl) rfl rfl
  refine Call_ (ld_blt I hg2 hm2 hv2 ?_)
  refine PyProof.Rows.callWith_type1 (PyProof.Rows.args_cons (thn (ha.run pins s σ H _ I h) fun v s1 ⟨x, H1, I1, r1, q1⟩ => PyProof.Rows.args_nil ?_) na) na rfl
  obtain ⟨l, xs, rfl, hq, h64, q1⟩ := q1
  cases r1
  obtain ⟨its, r, pl, hz⟩ := I1.list hq
  have hA := I1.ok.hd hc
  refine tx_set hA pl.isList (by simpa using strsAre_of r) (by unfold scanBound; omega) fun h' tk R k1 => PyProof.Rows.args_nil ?_
  have len : (xs.foldl dd []).length < 64 := by
    have := dds_len xs []; rw [List.length_nil] at this; omega
  refine tx_sorted (s := { s1 with heap := h', toks := tk }) R hA len fun z pp out c ss k g o hp hgt hi pm hs => ?_
  obtain rfl : ss = uqs xs := uqs_of pm hs
  have kk : ∀ b u, s1.heap.get? b = some u → z.heap.get? b = some u := fun b u e => k b u (k1 b u e)
  have hp1 : s1.heap.objs.size ≤ pp := by
    have hlt : s1.heap.objs.size < h'.objs.size := by
      obtain ⟨o, _, _, _, ho, _⟩ := R
      exact Heap.lt_size ho
    exact Nat.le_trans (Nat.le_of_lt hlt) hp
  have hn : H1 pp = none := I1.hok.fresh hp1
  have hlen : ((uqs xs).map V.str).length ≤ sizeLine := by
    have := @uqs_len xs
    rw [List.length_map, sizeLine_eq]; omega
  have J : Inv X pins σ (upd H1 pp (.lst ((uqs xs).map V.str))) { s1 with heap := z.heap, gens := z.gens, drawn := z.drawn, toks := z.toks } :=
    I1.call (ch := []) (Un.laid kk hp1 hn) (I1.hok.laid kk hp1 ⟨hlen, out.toList, c, vals_of_strs hi, hgt⟩) (by rw [g]; exact I1.bare) (fun _ z => nomatch z)
  have e : z = { s1 with heap := z.heap, gens := z.gens, drawn := z.drawn, toks := z.toks } := by
    obtain ⟨zh, zg, zd, zt, zo⟩ := z
    cases (show zo = s1.os from o); rfl
  rw [e]
  exact ⟨.ref pp, _, J, rfl, q1 pp hn⟩
def dSS (ta2 : TE2) : TE2 := fun ρ μ Q => ta2 ρ μ fun x μ1 => ∃ xs : List Str, asL μ1 x = some (xs.map D.str) ∧ xs.length < 64 ∧ ∀ p, μ1 p = none → Q (.adr p) (mup μ1 p (.lst ((uqs xs).map D.str)))
def dSSK (Q : DK) : DK := fun x μ1 => ∃ xs : List Str, asL μ1 x = some (xs.map D.str) ∧ xs.length < 64 ∧ ∀ p, μ1 p = none → Q (.adr p) (mup μ1 p (.lst ((uqs xs).map D.str)))
theorem w_ss (h : ta2 ρ μ (dSSK Q)) : dSS ta2 ρ μ Q := h
theorem w_ssK {x : D} {xs : List Str} (h : asL μ x = some (xs.map D.str)) (l : xs.length < 64) (q : ∀ p, μ p = none → Q (.adr p) (mup μ p (.lst ((uqs xs).map D.str)))) : dSSK Q x μ := ⟨xs, h, l, q⟩
theorem e_sortedSet [Jx] (hc : X.calm = true) (hg : Gl X "sorted") (hm : X.mg "sorted" = none) (hg2 : Gl X "set") (hm2 : X.mg "set" = none) (ha : PE2 X a ta ta2) (hv : bootBuiltins "sorted" = some (.builtin "sorted") := by decide +kernel) (hv2 : bootBuiltins "set" = some (.type "set") := by decide +kernel)
    (na : starEach [a] X.env = (false, eval a X.env) :: starEach [] X.env := by rfl) : PE2 X (.Call (.Name "sorted" p) [.Call (.Name "set" p2) [a] [] q] [] pos) (tSS X.K ta) (dSS ta2) :=
  ⟨pe_sortedSet hc hg hm hg2 hm2 ha.pe hv hv2 na, fun ρ μ Q2 q I σ H hA hS Q g => ha.re ρ μ _ q I σ H hA hS _ fun x μ1 v I1 H1 q1 a1 k1 r1 => by
    obtain ⟨xs, h1, h2, q1⟩ := q1
    obtain ⟨l, ws, rfl, h3, h4⟩ := asL_at a1 r1 h1
    rw [h4.strs_inv] at h3
    exact ⟨l, xs, rfl, SqL.of h3, h2, fun p' c => (g.past k1) _ _ _ _ _ (q1 p' (a1.noM c)) (a1.got c ⟨_, rfl, RpA.strs _⟩) (Kp.got c) rfl⟩⟩
end
end Y

set_option Elab.async false
set_option linter.all false
set_option maxRecDepth 100000
set_option maxHeartbeats 4000000
namespace Y
open PySem PySem.Spec PyProof.Rows L2
/-! one reading or another one; isinstance of an own instance; a dict of the module; d.get(k, x) -/
section
variable {X : Cx} {K : PySem.W.Frag} {a b c e f i o : Expr} {es rest : List Expr} {ta tb tc te tf to ti : TE} {ta2 tb2 tc2 te2 tf2 to2 ti2 : TE2} {pos apos cpos p tpos : Pos} {tl : TA} {tl2 : TA2} {x : Str} {C : Addr}
variable {ρ : Env2} {μ : Mu} {Q : DK} {k j : Nat}
def dAlt (t u : TE2) : TE2 := fun ρ μ Q => t ρ μ Q ∨ u ρ μ Q
theorem w_altL (h : ta2 ρ μ Q) : dAlt ta2 tb2 ρ μ Q := .inl h
theorem w_altR (h : tb2 ρ μ Q) : dAlt ta2 tb2 ρ μ Q := .inr h
theorem e_alt [Jx] (h1 : PE2 X e ta ta2) (h2 : PE2 X e tb tb2) : PE2 X e (fun σ H Q => ta σ H Q ∨ tb σ H Q) (dAlt ta2 tb2) :=
  ⟨⟨fun pins s σ H Q I h => h.elim (fun h => h1.pe.run pins s σ H Q I h) fun h => h2.pe.run pins s σ H Q I h⟩, fun ρ μ Q2 q I σ H hA hS Q g => q.elim (fun q => .inl (h1.re ρ μ Q2 q I σ H hA hS Q g)) fun q => .inr (h2.re ρ μ Q2 q I σ H hA hS Q g)⟩
/-! ### isinstance(x, C), x an instance of an own class -/
structure ClsI (K : PySem.W.Frag) (C : Addr) : Prop where
  cl : Cls K C
  ha : PySem.W.findIn K (.ref C) "__class__" = some (some (.builtin "object.__class__"))
  hn : PySem.W.specialIn K (.builtin "object.__class__") "__get__" = some (some (.builtin "getset_descriptor.__get__"))
  htk : PySem.W.takesIn K (.builtin "object.__class__") = some true
  hm : PySem.W.mroIn K C (.type "object") = some true
def dIsO (K : PySem.W.Frag) : DRC := fun xs μ Q => ∃ x C fs y u b, xs = [x, y] ∧ fldsOf C μ x = some fs ∧ ClsI K C ∧ ClsD y u ∧ PySem.W.kitOne K (.ref C) u = some b ∧ Q (.bl b) μ
theorem w_isO {x y : D} {fs : List (Str × D)} {u : Value} {b : Bool} (h : fldsOf C μ x = some fs) (h1 : ClsI K C) (h2 : ClsD y u) (h3 : PySem.W.kitOne K (.ref C) u = some b) (q : Q (.bl b) μ) : dIsO K [x, y] μ Q := ⟨x, C, fs, y, u, b, rfl, h, h1, h2, h3, q⟩
theorem rc_isO [Jx] : RC K (rIsi K) (dIsO K) := fun xs μ Q2 q I H vs hA r Q k => by
  obtain ⟨x, C, fs, y, u, b, rfl, h, h1, h2, h3, q⟩ := q
  obtain ⟨v, w, rfl, e1, e2⟩ := r.two_inv
  obtain ⟨p, dx, hfs, rfl, hp, _⟩ := fldsOf_at hA e1 h
  exact ⟨.ref p, w, .ref C, u, b, rfl, h2.rel e2, .base (.ins hp h1.cl h1.ha h1.hn h1.htk h1.hm), h3, k _ _ _ _ _ q hA Kp.refl rfl⟩
theorem e_isO [Jx] (hg : Gl X "isinstance") (hm : X.mg "isinstance" = none) (ha : PA2 X [a, b] tl tl2) (hv : bootBuiltins "isinstance" = some (.builtin "isinstance") := by decide +kernel) (he : starEach [a, b] X.env = (false, eval a X.env) :: starEach [b] X.env := by rfl) (hpl : (backTo pos (starEach [b] X.env)).any (·.1) = false := by rfl) :
    PE2 X (.Call (.Name "isinstance" p) [a, b] [] pos) (tCB (rIsi X.K) tl) (dCB (dIsO X.K) tl2) := e_cb call_isi rc_isO hg hm hv ha (he := he) (hpl := hpl)
/-! ### a dict of the module, its values tuples of texts -/
structure Kdt (wp : Params) (K : PySem.W.Frag) (mg : Str → Option Value) (x : Str) (p : Addr) (rows : List (Str × List Str)) : Prop where
  mg : mg x = some (.ref p)
  of : ∃ es n, K.lookup p = some ⟨.type "dict", none, .dict es n, #[]⟩ ∧ PySem.W.KeysLit wp es.toList
  low : (p == sysModules) = false
  row : ∀ z ws, rows.lookup z = some ws → ∃ q o its n, PySem.W.nsIn K p z = some (some (.ref q)) ∧ K.lookup q = some o ∧ o.cls = .type "tuple" ∧ o.data = .seq its n ∧ its.size ≤ sizeLine ∧ Vals (ws.map V.str) its.toList
variable {wp : Params} {rows : List (Str × List Str)} {d : Addr}
theorem e_globA [Jx] (G : Kdt wp X.K X.mg x d rows) (hg : Gl X x) (hd : (x == ("__debug__" : Str)) = false := by decide) : PE2 X (.Name x pos) (tC (.ref d)) (dC (.adr d)) := e_cst (pe_glob hg G.mg rfl hd) fun _ => rfl
def dIxKd (d : Addr) (rows : List (Str × List Str)) : DR2 := fun x y μ Q => ∃ z ws, x = .adr d ∧ y = .str z ∧ rows.lookup z = some ws ∧ Q (.tup (ws.map D.str)) μ
theorem w_ixKd {z : Str} {ws : List Str} (h : rows.lookup z = some ws) (q : Q (.tup (ws.map D.str)) μ) : dIxKd d rows (.adr d) (.str z) μ Q := ⟨z, ws, rfl, rfl, h, q⟩
theorem rr_ixKd [Jx] {w : World} {mg : Str → Option Value} (G : Kdt w.params K mg x d rows) : RR K (rIxD K w) (dIxKd d rows) := fun x y μ Q2 q I H vx vy hA rx ry Q k => by
  obtain ⟨z, ws, rfl, rfl, h, q⟩ := q
  cases (show vx = _ from rx)
  cases (show vy = _ from ry)
  obtain ⟨es, n, h1, h2⟩ := G.of
  obtain ⟨qa, ob, its, m, e1, e2, e3, e4, e5, e6⟩ := G.row z ws h
  exact ⟨d, z, .ref qa, rfl, rfl, ⟨es, n, _, h1, h2, e1, rfl⟩, k _ _ _ _ _ q hA Kp.refl ⟨qa, ws.map V.str, rfl, .inr ⟨ob, its, m, e2, e3, e4, e5, e6⟩, RpA.strs ws⟩⟩
theorem e_ixKd [Jx] (G : Kdt X.w.params X.K X.mg x d rows) (ha : PE2 X a ta ta2) (hb : PE2 X b tb tb2) (hs : PlainIx b) : PE2 X (.Subscript a b pos) (tOp (rIxD X.K X.w) ta tb) (dOp (dIxKd d rows) ta2 tb2) := ⟨pe_ix ix_kdict ha.pe hb.pe hs, re_op (rr_ixKd G) ha.re hb.re⟩
abbrev rvNotInKd (K : PySem.W.Frag) (d : Addr) : R2 := fun x y H Q => ∃ (z : Str) (r : Option Value), x = .str z ∧ y = .ref d ∧ PySem.W.nsIn K d z = some r ∧ Q (.bl (!r.isSome)) H
def dNotInKd (d : Addr) (rows : List (Str × List Str)) : DR2 := fun x y μ Q => ∃ z ws, x = .str z ∧ y = .adr d ∧ rows.lookup z = some ws ∧ Q (.bl false) μ
theorem w_notInKd {z : Str} {ws : List Str} (h : rows.lookup z = some ws) (q : Q (.bl false) μ) : dNotInKd d rows (.str z) (.adr d) μ Q := ⟨z, ws, rfl, rfl, h, q⟩
theorem rr_notInKd [Jx] {mg : Str → Option Value} (G : Kdt wp K mg x d rows) : RR K (rvNotInKd K d) (dNotInKd d rows) := fun x y μ Q2 q I H vx vy hA rx ry Q k => by
  obtain ⟨z, ws, rfl, rfl, h, q⟩ := q
  cases (show vx = _ from rx)
  cases (show vy = _ from ry)
  obtain ⟨qa, ob, its, m, e1, _⟩ := G.row z ws h
  exact ⟨z, _, rfl, rfl, e1, k _ _ _ _ _ q hA Kp.refl rfl⟩
theorem Kdt.opN (G : Kdt X.w.params X.K X.mg x d rows) : OpR X (compareOp .NotIn) (rvNotInKd X.K d) := by
  obtain ⟨es, n, h1, h2⟩ := G.of
  exact op_notIn_kd ⟨h1, h2, G.low⟩
theorem e_notInKd [Jx] (G : Kdt X.w.params X.K X.mg x d rows) (ha : PE2 X a ta ta2) (hb : PE2 X b tb tb2) (hm : behindInMarks .NotIn b = false) : PE2 X (.Compare a [.NotIn] [b] pos) (tOp (rvNotInKd X.K d) ta tb) (dOp (dNotInKd d rows) ta2 tb2) := e_cmp G.opN (rr_notInKd G) ha hb hm
theorem t_notInKd [Jx] (G : Kdt X.w.params X.K X.mg x d rows) (ha : PE2 X a ta ta2) (hb : PE2 X b tb tb2) (hm : behindInMarks .NotIn b = false) : PT2 X (.Compare a [.NotIn] [b] pos) (tTest (tOp (rvNotInKd X.K d) ta tb)) (dVal (dOp (dNotInKd d rows) ta2 tb2)) := t_cmp G.opN (rr_notInKd G) ha hb hm
/-! ### d.get(k, x) -/
def dGet2 (to te tf : TE2) : TE2 := fun ρ μ Q => to ρ μ fun x μ1 => (∃ a kvs, x = .adr a ∧ μ1 a = some (.dk kvs)) ∧ te ρ μ1 fun y μ2 => tf ρ μ2 fun z μ3 => ∃ a kvs k, x = .adr a ∧ μ3 a = some (.dk kvs) ∧ y = kD k ∧ Q ((valD kvs k).getD z) μ3
def dGet2K (N : Prop) : D → Mu → Prop := fun x μ1 => (∃ a kvs, x = .adr a ∧ μ1 a = some (.dk kvs)) ∧ N
def dGet2L (x y : D) (Q : DK) : DK := fun z μ3 => ∃ a kvs k, x = .adr a ∧ μ3 a = some (.dk kvs) ∧ y = kD k ∧ Q ((valD kvs k).getD z) μ3
theorem w_get2 (h : to2 ρ μ fun x μ1 => dGet2K (te2 ρ μ1 fun y μ2 => tf2 ρ μ2 (dGet2L x y Q)) x μ1) : dGet2 to2 te2 tf2 ρ μ Q := h
theorem w_get2K {N : Prop} {a : Addr} {kvs : List (Key × D)} (h : μ a = some (.dk kvs)) (q : N) : dGet2K N (.adr a) μ := ⟨⟨a, kvs, rfl, h⟩, q⟩
theorem w_get2L {a : Addr} {kvs : List (Key × D)} {k : Key} {z : D} (h : μ a = some (.dk kvs)) (q : Q ((valD kvs k).getD z) μ) : dGet2L (.adr a) (kD k) Q z μ := ⟨a, kvs, k, rfl, h, rfl, q⟩
theorem e_get2 [Jx] (hr : Room k X.A) (ho : PE2 X o to to2) (he : PE2 X e te te2) (hf : PE2 X f tf tf2) (hbase : attributeBase o "get" X.env (eval o X.env) = eval o X.env := by rfl)
    (hfew : ((backTo cpos (starEach [e, f] X.env)).all (fun x => !x.1) && (backToKw cpos (keywordEach [] X.env)).all (fun x => x.1.isSome) && decide (([e, f] : List Expr).length + ([] : List Keyword).length + (if ([] : List Keyword).isEmpty then 0 else 1) < 30)) = true := by rfl)
    (hline : (apos.endLine == cpos.line) = true := by rfl) (hs : backTo cpos (starEach [e, f] X.env) = [(false, eval e X.env), (false, eval f X.env)] := by rfl) :
    PE2 X (.Call (.Attribute o "get" apos) [e, f] [] cpos) (tDGet2 to te tf) (dGet2 to2 te2 tf2) :=
  ⟨pe_dget2 (Nat.lt_of_le_of_lt (Nat.add_le_add_left (by decide) _) hr.units) ho.pe he.pe hf.pe ⟨hbase, hfew, hline, hs⟩, fun ρ μ Q2 q I σ H hA hS Q g => ho.re ρ μ _ q I σ H hA hS _ fun x μ1 vx I1 H1 q1 a1 k1 r1 => by
    obtain ⟨⟨p0, kvs0, rfl, h0⟩, q1⟩ := q1
    obtain ⟨hvs0, g0, _⟩ := at_dk a1 h0
    cases (show vx = _ from r1)
    refine ⟨p0, rfl, .inl ⟨hvs0, .inl g0⟩, he.re ρ μ1 _ q1 I1 σ H1 a1 (hS.mono k1.ex) _ fun y μ2 vy I2 H2 q2 a2 k2 r2 => hf.re ρ μ2 _ q2 I2 σ H2 a2 (hS.mono (k1.trans k2).ex) _ fun z μ3 vz I3 H3 q3 a3 k3 r3 => ?_⟩
    obtain ⟨p1, kvs, ky, e1, h, rfl, q3⟩ := q3
    cases e1
    obtain ⟨hvs, h1, r⟩ := at_dk a3 h
    have hv := valD_rp (k := ky) r
    cases rp_kD r2
    refine ⟨valV hvs ky, DGet.k h1, ?_⟩
    cases e : valD kvs ky with
    | none =>
      rw [e] at hv q3
      rw [show valV hvs ky = none from hv]
      exact g _ _ _ _ _ q3 a3 ((k1.trans k2).trans k3) r3
    | some v0 =>
      rw [e] at hv q3
      obtain ⟨v, e1, rv⟩ := hv
      rw [e1]
      exact g _ _ _ _ _ q3 a3 ((k1.trans k2).trans k3) rv⟩
end
/-- a class of which nothing but its name is asked -/
structure Kb (mg : Str → Option Value) (x : Str) (C : Addr) : Prop where
  mg : mg x = some (.ref C)
def KdRow (K : PySem.W.Frag) (p : Addr) (z : Str) (ws : List Str) : Prop := ∃ q o its n, PySem.W.nsIn K p z = some (some (.ref q)) ∧ K.lookup q = some o ∧ o.cls = .type "tuple" ∧ o.data = .seq its n ∧ its.size ≤ sizeLine ∧ Vals (ws.map V.str) its.toList
def KdRows (K : PySem.W.Frag) (p : Addr) : List (Str × List Str) → Prop
  | [] => True
  | r :: rs => KdRow K p r.1 r.2 ∧ KdRows K p rs
theorem kdt_rows {K : PySem.W.Frag} {p : Addr} : ∀ {rows : List (Str × List Str)}, KdRows K p rows → ∀ z ws, rows.lookup z = some ws → KdRow K p z ws
  | [], _, z, ws, h => by cases h
  | (y, vs) :: r, ⟨h1, h2⟩, z, ws, h => by
    rw [List.lookup_cons] at h
    cases q : z == y with
    | true =>
      rw [q] at h
      cases h
      rw [beq_iff_eq.mp q]; exact h1
    | false =>
      rw [q] at h
      exact kdt_rows h2 z ws h
theorem kq_of {K : PySem.W.Frag} {cc : Nat → Addr} {R : Nat → Nat → Bool → Prop} {i j : Nat} {b : Bool} (h : ∀ i j b, R i j b → PySem.W.kitOne K (.ref (cc i)) (.ref (cc j)) = some b) (e : R i j b) : PySem.W.kitOne K (.ref (cc i)) (.ref (cc j)) = some b := h i j b e
theorem ci_of {K : PySem.W.Frag} {cc : Nat → Addr} {R : Nat → Prop} {i : Nat} (h : ∀ i, R i → ClsI K (cc i)) (e : R i) : ClsI K (cc i) := h i e
end Y

set_option Elab.async false
set_option linter.all false
set_option maxRecDepth 100000
set_option maxHeartbeats 4000000
namespace Y
open PySem PySem.Spec PyProof.Rows L2
/-! texts put together -/
theorem app_cps (x y : Str) : (x ++ y).cps.toList = x.cps.toList ++ y.cps.toList := by
  show (x.cps ++ y.cps).toList = _
  rw [Array.toList_append]
theorem emp_app (x : Str) : Str.empty ++ x = x := str_ext (by rw [app_cps]; rfl)
theorem ap3 (a b c : Str) : a ++ b ++ c = a ++ (b ++ c) := str_ext (by simp only [app_cps, List.append_assoc])
theorem len_app (a b : Str) : (a ++ b).length = a.length + b.length := Str.length_append a b
theorem ok_app (a b : Str) : PyData.strOk (a ++ b) = (PyData.strOk a && PyData.strOk b) := by
  unfold PyData.strOk
  rw [← Array.all_toList, ← Array.all_toList, ← Array.all_toList, app_cps, List.all_append]
abbrev tx (n : Int) : Str := Str.ofString (toString n)
theorem tx_len {n : Int} (h0 : 0 ≤ n) (h : n < 10 ^ 10) : (tx n).length ≤ 10 := toString_length_le h0 (by decide) h
theorem tx_ok {n : Int} (h0 : 0 ≤ n) : PyData.strOk (tx n) = true := by
  obtain ⟨k, rfl⟩ := Int.eq_ofNat_of_zero_le h0
  unfold PyData.strOk
  rw [← Array.all_toList, show (tx (k : Int)).cps.toList = (Nat.toDigits 10 k).map Char.toNat from PySem.W.KIN.signs_num k, List.all_map]
  refine List.all_eq_true.mpr fun c hc => ?_
  have h := Nat.isDigit_of_mem_toDigits (by decide) (by decide) hc
  unfold Char.isDigit at h
  rw [Bool.and_eq_true, decide_eq_true_eq, decide_eq_true_eq] at h
  have h3 : c.toNat ≤ 57 := h.2
  exact decide_eq_true (by omega)
theorem lg_small {n : Int} (h : n.natAbs < 2 ^ 64) : n.natAbs.log2 < 1920 := by
  by_cases e : n.natAbs = 0
  · rw [e]; decide
  · exact Nat.lt_trans ((Nat.log2_lt e).mpr h) (by decide)
theorem join1 (s x : Str) : Txt.join s [x] = x := by rw [TL.join_eq]; rfl
theorem join2 (s x y : Str) (r : List Str) : Txt.join s (x :: y :: r) = x ++ (s ++ Txt.join s (y :: r)) := by
  rw [TL.join_eq, TL.join_eq, PyProof.Rows.join_cons_cons, ap3]
section
variable {ρ : Env2} {μ : Mu} {Q : DK}
theorem w_jsK0 {ts : List TE2} {y : Str} (l : y.length ≤ sizeLine) (q : dJs ts y ρ μ Q) : dJsK ts Str.empty ρ Q (.str y) μ := ⟨y, rfl, by rw [emp_app]; exact l, by rw [emp_app]; exact q⟩
theorem w_get2S {a : Addr} {kvs : List (Key × D)} {x : Str} {z : D} (h : μ a = some (.dk kvs)) (q : Q ((valD kvs (.inr x)).getD z) μ) : dGet2L (.adr a) (.str x) Q z μ := w_get2L (k := .inr x) h q
end
end Y

set_option Elab.async false
set_option linter.all false
set_option maxRecDepth 100000
set_option maxHeartbeats 4000000
namespace Y
open PySem PySem.Spec PyProof.Rows L2
theorem inn_str (z : Str) (l : List Str) : (D.str z).inn (l.map D.str) = decide (z ∈ l) := by
  induction l with
  | nil => rfl
  | cons y l ih =>
    show (y == z || (D.str z).inn (l.map D.str)) = _
    rw [ih]
    by_cases e : y = z
    · subst e; simp
    · rw [show (y == z) = false from beq_eq_false_iff_ne.mpr e, Bool.false_or]
      exact decide_eq_decide.mpr (by simp [List.mem_cons, Ne.symm e])
theorem flat_strs (l : List Str) : (l.map D.str).all D.flat = true := by
  rw [List.all_map]; exact List.all_eq_true.mpr fun _ _ => rfl
theorem eq_self {μ : Mu} {x : D} (s : D.shp 64 x = true) (e : rsv μ x = x) : EqR μ x x true := .inr ⟨by rw [e]; exact s, by rw [e]; exact s, by rw [e]; exact eqv_self rfl s⟩
end Y

set_option Elab.async false
set_option linter.all false
set_option maxRecDepth 100000
set_option maxHeartbeats 4000000
namespace Y
open PySem PySem.Spec PyProof.Rows L2
/-! int(text); reversed(range(..)); list(range(..)) -/
section
variable {X : Cx} {K : PySem.W.Frag} {a b c e f i o : Expr} {es rest : List Expr} {ta tb tc te tf to ti : TE} {ta2 tb2 tc2 te2 tf2 to2 ti2 : TE2} {pos apos cpos p q tpos : Pos} {tl : TA} {tl2 : TA2} {x : Str}
variable {ρ : Env2} {μ : Mu} {Q : DK}
def dIntS : DRC := fun xs μ Q => ∃ (z : Str) (n : Int), xs = [.str z] ∧ PySem.intText? z = some n ∧ z.length ≤ 640 ∧ Q (.int n) μ
theorem w_intS {z : Str} {n : Int} (h : PySem.intText? z = some n) (l : z.length ≤ 640) (q : Q (.int n) μ) : dIntS [.str z] μ Q := ⟨z, n, rfl, h, l, q⟩
abbrev rvIntS : List V → Hp → VK → Prop := fun xs H Q => ∃ a n, xs = [.str a] ∧ PySem.intText? a = some n ∧ a.length ≤ 640 ∧ Q (.int n) H
theorem e_intS [Jx] (hg : Gl X "int") (hm : X.mg "int" = none) (ha : PA2 X [e] tl tl2) (hv : bootBuiltins "int" = some (.type "int") := by decide +kernel) (he : starEach [e] X.env = (false, eval e X.env) :: starEach [] X.env := by rfl) : PE2 X (.Call (.Name "int" p) [e] [] pos) (tCB rvIntS tl) (dCB dIntS tl2) :=
  e_cty call_int_str (fun xs μ Q2 q I H vs hA r Q k => by
    obtain ⟨z, n, rfl, h, l, q⟩ := q
    obtain ⟨v, rfl, e⟩ := r.one_inv
    cases (show v = _ from e)
    exact ⟨z, n, rfl, h, l, k _ _ _ _ _ q hA Kp.refl rfl⟩) hg hm hv ha (he := he)
/-! reversed(range(..)) -/
theorem itd_c [Jx] {I : Hp} (lo : Int) (n : Nat) : ItD K (Itc (lo + (n : Int) - 1) (-1) n) (rngD lo n).reverse (fun _ => True) I := fun i I' μ' H' e a _ => by
  rw [List.length_reverse, rngD_len]
  refine ⟨fun hi => ⟨hi, fun w H2 y => ?_⟩, fun hi => hi⟩
  obtain ⟨rfl, rfl⟩ := y
  refine ⟨.int (lo + ((n - 1 - i : Nat) : Int)), I', ?_, a, Kp.refl, ?_⟩
  · rw [rev_get (by rw [rngD_len]; exact hi), rngD_len, rngD_get (by omega)]
  · show V.int _ = V.int _
    congr 1; omega
def jRv1 (t : TE2) : TI2 := fun ρ μ R => t ρ μ fun d μ1 => ∃ n : Int, d = .int n ∧ (-(2 ^ 62) ≤ n ∧ n < 2 ^ 62) ∧ R (rngD 0 n.toNat).reverse (fun _ => True) μ1
def jRv1K (R : List D → (Mu → Prop) → Mu → Prop) : DK := fun d μ1 => ∃ n : Int, d = .int n ∧ (-(2 ^ 62) ≤ n ∧ n < 2 ^ 62) ∧ R (rngD 0 n.toNat).reverse (fun _ => True) μ1
theorem w_jRv1 {R : List D → (Mu → Prop) → Mu → Prop} (h : te2 ρ μ (jRv1K R)) : jRv1 te2 ρ μ R := h
theorem w_jRv1K {R : List D → (Mu → Prop) → Mu → Prop} {n : Int} (h : -(2 ^ 62) ≤ n ∧ n < 2 ^ 62) (q : R (rngD 0 n.toNat).reverse (fun _ => True) μ) : jRv1K R (.int n) μ := ⟨n, rfl, h, q⟩
theorem j_rv1 [Jx] {tg : Expr} (hg : Gl X "reversed") (hm : X.mg "reversed" = none) (hg2 : Gl X "range") (hm2 : X.mg "range" = none) (ha : PE2 X a ta ta2) (na : starEach [a] X.env = (false, eval a X.env) :: starEach [] X.env := by rfl)
    (hs : starEach [.Call (.Name "range" p) [a] [] pos] X.env = (false, eval (.Call (.Name "range" p) [a] [] pos) X.env) :: starEach [] X.env := by rfl) : PI2 X tg (.Call (.Name "reversed" q) [.Call (.Name "range" p) [a] [] pos] [] cpos) (iRevR (tRg1 ta)) (jRv1 ta2) :=
  ⟨pi_revR hg hm (prg_1 hg2 hm2 ha.pe na) hs, fun ρ μ R2 q I σ H hA hS R k => ha.re ρ μ _ q I σ H hA hS _ fun d μ1 v I1 H1 q1 a1 k1 r1 => by
    obtain ⟨n, rfl, h, q1⟩ := q1
    cases (show v = _ from r1)
    refine ⟨n, rfl, by decide, by decide, h.1, h.2, ?_⟩
    rw [show n - 0 = n by omega]
    exact k _ _ _ _ _ _ q1 a1 k1 (itd_c 0 n.toNat)⟩
/-! list(range(..)) -/
theorem rp_rng {I : Hp} {lo : Int} {n : Nat} : RpA K I (rngD lo n) ((List.range n).map fun i => V.int (lo + (i : Nat))) := by
  unfold rngD
  generalize List.range n = l
  induction l with
  | nil => rfl
  | cons x l ih => exact ⟨_, _, rfl, rfl, ih⟩
def dLstRg1 (t : TE2) : TE2 := fun ρ μ Q => t ρ μ fun d μ1 => ∃ n : Int, d = .int n ∧ RgOk 0 n ∧ ∀ p, μ1 p = none → Q (.adr p) (mup μ1 p (.lst (rngD 0 n.toNat)))
def dLstRg1K (Q : DK) : DK := fun d μ1 => ∃ n : Int, d = .int n ∧ RgOk 0 n ∧ ∀ p, μ1 p = none → Q (.adr p) (mup μ1 p (.lst (rngD 0 n.toNat)))
theorem w_lrg1 (h : te2 ρ μ (dLstRg1K Q)) : dLstRg1 te2 ρ μ Q := h
theorem w_lrg1K {n : Int} (h : RgOk 0 n) (q : ∀ p, μ p = none → Q (.adr p) (mup μ p (.lst (rngD 0 n.toNat)))) : dLstRg1K Q (.int n) μ := ⟨n, rfl, h, q⟩
theorem e_listRg1 [Jx] (hc : X.calm = true) (hg : Gl X "list") (hm : X.mg "list" = none) (hg2 : Gl X "range") (hm2 : X.mg "range" = none) (ha : PE2 X a ta ta2) (na : starEach [a] X.env = (false, eval a X.env) :: starEach [] X.env := by rfl)
    (hs : starEach [.Call (.Name "range" p) [a] [] pos] X.env = (false, eval (.Call (.Name "range" p) [a] [] pos) X.env) :: starEach [] X.env := by rfl) : PE2 X (.Call (.Name "list" q) [.Call (.Name "range" p) [a] [] pos] [] cpos) (tLstRg (tRg1 ta)) (dLstRg1 ta2) :=
  ⟨pe_listRg hc hg hm (prg_1 hg2 hm2 ha.pe na) hs, fun ρ μ Q2 q I σ H hA hS Q g => ha.re ρ μ _ q I σ H hA hS _ fun d μ1 v I1 H1 q1 a1 k1 r1 => by
    obtain ⟨n, rfl, h, q1⟩ := q1
    cases (show v = _ from r1)
    refine ⟨n, rfl, h, fun p' hp => ?_⟩
    have e : rgV 0 n = (List.range n.toNat).map fun i => V.int (0 + (i : Nat)) := by unfold rgV; rw [show n - 0 = n by omega]
    exact g _ _ _ _ _ (q1 p' (a1.noM hp)) (a1.got hp ⟨_, rfl, e ▸ rp_rng⟩) (k1.trans (Kp.got hp)) rfl⟩
end
end Y

set_option Elab.async false
set_option linter.all false
set_option maxRecDepth 100000
set_option maxHeartbeats 4000000
namespace Y
open PySem PySem.Spec PyProof.Rows L2
/-! bits -/
theorem add_and_or (x : Nat) : ∀ y : Nat, x + y = (x ||| y) + (x &&& y) ∧ x ||| y = (x &&& y) + (x ^^^ y) := by
  induction x using Nat.strongRecOn with
  | ind x ih =>
    intro y
    by_cases hx : x = 0
    · subst hx; simp
    · have h := ih (x / 2) (by omega) (y / 2)
      have e1 : (x ||| y) / 2 = x / 2 ||| y / 2 := Nat.or_div_two
      have e2 : (x &&& y) / 2 = x / 2 &&& y / 2 := Nat.and_div_two
      have e3 : (x ^^^ y) / 2 = x / 2 ^^^ y / 2 := Nat.xor_div_two
      have f1 : (x ||| y) % 2 = (x % 2 ||| y % 2) := by simpa using @Nat.or_mod_two_pow x y 1
      have f2 : (x &&& y) % 2 = (x % 2 &&& y % 2) := by simpa using @Nat.and_mod_two_pow x y 1
      have f3 : (x ^^^ y) % 2 = (x % 2 ^^^ y % 2) := by simpa using @Nat.xor_mod_two_pow x y 1
      rcases Nat.mod_two_eq_zero_or_one x with a | a <;> rcases Nat.mod_two_eq_zero_or_one y with b | b <;> rw [a, b] at f1 f2 f3 <;> simp only [Nat.reduceOr, Nat.reduceAnd, Nat.reduceXor] at f1 f2 f3 <;> omega
theorem band_nat (a b : Nat) : Builtin.bitAnd (a : Int) (b : Int) = ((a &&& b : Nat) : Int) := by simp [Builtin.bitAnd]
theorem bor_nat (a b : Nat) : Builtin.bitOr (a : Int) (b : Int) = ((a ||| b : Nat) : Int) := by
  have h := (add_and_or a b).1
  rw [PyProof.Rows.bitOr_and, band_nat]; omega
theorem one_shl (n : Nat) : (1 : Int) * 2 ^ ((n : Int)).toNat = ((2 ^ n : Nat) : Int) := by simp
/-- the bits of some numbers -/
def bitsN (l : List Nat) : Nat := l.foldl (fun a i => a ||| 2 ^ i) 0
theorem bits_snoc (l : List Nat) (i : Nat) : bitsN (l ++ [i]) = bitsN l ||| 2 ^ i := by
  unfold bitsN; rw [List.foldl_append]; rfl
theorem tb_foldl (j : Nat) : ∀ (l : List Nat) (a : Nat), (l.foldl (fun a i => a ||| 2 ^ i) a).testBit j = (a.testBit j || decide (j ∈ l))
  | [], a => by simp
  | i :: l, a => by
    rw [List.foldl_cons, tb_foldl j l, Nat.testBit_or, Nat.testBit_two_pow]
    by_cases h1 : i = j
    · subst h1; simp
    · have h2 : ¬ j = i := fun e => h1 e.symm
      simp [h1, h2]
theorem tb_bits (l : List Nat) (j : Nat) : (bitsN l).testBit j = decide (j ∈ l) := by
  unfold bitsN; rw [tb_foldl]; simp
theorem bits_ne {l : Nat} (h : l ≠ 0) : ∃ j, l.testBit j = true := by
  by_cases q : ∃ j, l.testBit j = true
  · exact q
  · exact absurd (Nat.eq_of_testBit_eq fun i => by
      rw [Nat.zero_testBit]
      cases e : l.testBit i with
      | false => rfl
      | true => exact absurd ⟨i, e⟩ q) h
theorem bits_eq {a b : Nat} (h : ∀ j, a.testBit j = true ↔ b.testBit j = true) : a = b := Nat.eq_of_testBit_eq fun i => by
  have := h i
  cases e : a.testBit i <;> cases f : b.testBit i <;> rw [e, f] at this <;> simp at this ⊢
end Y

set_option Elab.async false
set_option linter.all false
set_option maxRecDepth 100000
set_option maxHeartbeats 4000000
namespace Y
open PySem PySem.Spec PyProof.Rows L2
/-! what loops walk over -/
theorem enu_mem {α : Type} (f : α → D) : ∀ (l : List α) (n : Nat) (d : D), d ∈ enuD n (l.map f) → ∃ (i : Nat) (x : α), d = .tup [.int ((n + i : Nat) : Int), f x] ∧ l[i]? = some x
  | [], _, _, h => by cases h
  | x :: l, n, d, h => by
    rcases List.mem_cons.mp (show d ∈ D.tup [.int (n : Nat), f x] :: enuD (n + 1) (l.map f) from h) with rfl | h
    · exact ⟨0, x, rfl, rfl⟩
    · obtain ⟨i, y, e1, e2⟩ := enu_mem f l (n + 1) d h
      exact ⟨i + 1, y, by rw [e1]; congr 4; omega, by simpa using e2⟩
theorem enu_mem0 {α : Type} {f : α → D} {l : List α} {d : D} (h : d ∈ enuD 0 (l.map f)) : ∃ (i : Nat) (x : α), d = .tup [.int (i : Int), f x] ∧ l[i]? = some x := by
  obtain ⟨i, x, e1, e2⟩ := enu_mem f l 0 d h
  exact ⟨i, x, by rw [e1, Nat.zero_add], e2⟩
theorem rng_mem {lo : Int} {n : Nat} {d : D} (h : d ∈ rngD lo n) : ∃ i : Nat, i < n ∧ d = .int (lo + (i : Int)) := by
  unfold rngD at h
  obtain ⟨i, hi, rfl⟩ := List.mem_map.mp h
  exact ⟨i, List.mem_range.mp hi, rfl⟩
theorem rng_mem0 {n : Nat} {d : D} (h : d ∈ rngD 0 n) : ∃ i : Nat, i < n ∧ d = .int (i : Int) := by
  obtain ⟨i, h1, rfl⟩ := rng_mem h
  exact ⟨i, h1, by rw [Int.zero_add]⟩
theorem at_map {α : Type} {f : α → D} {l : List α} {i : Nat} {x : α} (h : l[i]? = some x) : atI (l.map f) (i : Int) = some (f x) := atI_nat (by rw [List.getElem?_map, h]; rfl)
theorem eqr_nil {μ : Mu} {l : List D} (h : D.shpA 63 l = true) : EqR μ (.lst l) (.lst []) l.isEmpty := .inr ⟨h, rfl, by cases l <;> rfl⟩
theorem shp_strs {n : Nat} {l : List Str} (h : ∀ x ∈ l, PyData.strOk x = true) : D.shpA n (l.map D.str) = true := shpA_all fun d hd => by
  obtain ⟨x, hx, rfl⟩ := List.mem_map.mp hd
  rw [shp_str]; exact h x hx
theorem empty_filter {α : Type} (l : List α) (p : α → Bool) : (l.filter p).isEmpty = !(l.any p) := by
  induction l with
  | nil => rfl
  | cons x l ih =>
    rw [List.filter_cons, List.any_cons]
    cases e : p x with
    | true => rfl
    | false => rw [if_neg Bool.false_ne_true, ih]; rfl
theorem isEmpty_map {α β : Type} (l : List α) (f : α → β) : (l.map f).isEmpty = l.isEmpty := by cases l <;> rfl
end Y

set_option Elab.async false
set_option linter.all false
set_option maxRecDepth 100000
set_option maxHeartbeats 4000000
namespace Y
open PySem PySem.Spec PyProof.Rows L2
/-! one step, found by its head -/
class Step (A : Prop) (B : outParam Prop) : Prop where
  go : B → A
section
variable {K : PySem.W.Frag} {X : Cx} {ta2 tb2 tc2 te2 tf2 to2 ti2 : TE2} {tt2 tu2 : TT2} {tl2 : TA2} {ts2 tz2 : TS2} {D2 : Ends2} {C : Addr} {f m : Str} {sp : Sp2} {x y z : Str} {cs : List String}
variable {ρ : Env2} {μ : Mu} {Q : DK} {T F : Mu → Prop}
instance st_seq {n b c : Env2 → Mu → Prop} {r : DK} : Step (dSeq ts2 tz2 ⟨n, r, b, c⟩ ρ μ) (ts2 ⟨tz2 ⟨n, r, b, c⟩, r, b, c⟩ ρ μ) := ⟨fun q => w_seq q⟩
instance st_c {d : D} {ρ : Env2} {μ : Mu} {Q : DK} : Step (dC d ρ μ Q) (Q d μ) := ⟨fun q => w_c q⟩
instance st_op {r : DR2} {ρ : Env2} {μ : Mu} {Q : DK} : Step (dOp r ta2 tb2 ρ μ Q) ((ta2 ρ μ fun x μ1 => tb2 ρ μ1 fun y μ2 => r x y μ2 Q)) := ⟨fun q => w_op q⟩
instance st_un {r : DR1} {ρ : Env2} {μ : Mu} {Q : DK} : Step (dUn r ta2 ρ μ Q) ((ta2 ρ μ fun x μ1 => r x μ1 Q)) := ⟨fun q => w_un q⟩
instance st_asg {g : TG2} {n b c : Env2 → Mu → Prop} {r : DK} : Step (dAsg te2 g ⟨n, r, b, c⟩ ρ μ) ((te2 ρ μ fun d μ1 => g d ρ μ1 n)) := ⟨fun q => w_asg q⟩
instance st_gN {i : Nat} {d : D} {QE : Env2 → Mu → Prop} : Step (gN i d ρ μ QE) (QE (ρ.set i (some d)) μ) := ⟨fun q => w_gN q⟩
instance st_ret {n b c : Env2 → Mu → Prop} {r : DK} : Step (dRet te2 ⟨n, r, b, c⟩ ρ μ) (te2 ρ μ r) := ⟨fun q => w_ret q⟩
instance st_ifS  : Step (dIfS tt2 ts2 tz2 D2 ρ μ) ((tt2 ρ μ (fun μ1 => ts2 D2 ρ μ1) (fun μ1 => tz2 D2 ρ μ1))) := ⟨fun q => w_ifS q⟩
instance st_val  : Step (dVal te2 ρ μ T F) (te2 ρ μ (dTail T F)) := ⟨fun q => w_val q⟩
instance st_tail {b : Bool} : Step (dTail T F (.bl b) μ) (Br b (T μ) (F μ)) := ⟨fun q => w_tail q⟩
instance st_and  : Step (dAnd tt2 tu2 ρ μ T F) ((tt2 ρ μ (fun μ1 => tu2 ρ μ1 T F) F)) := ⟨fun q => w_and q⟩
instance st_or  : Step (dOr tt2 tu2 ρ μ T F) ((tt2 ρ μ T (fun μ1 => tu2 ρ μ1 T F))) := ⟨fun q => w_or q⟩
instance st_not  : Step (dNot tt2 ρ μ T F) (tt2 ρ μ F T) := ⟨fun q => w_not q⟩
instance st_if  : Step (dIf tt2 ta2 tb2 ρ μ Q) ((tt2 ρ μ (fun μ1 => ta2 ρ μ1 Q) (fun μ1 => tb2 ρ μ1 Q))) := ⟨fun q => w_if q⟩
instance st_andV  : Step (dAndV ta2 tb2 ρ μ Q) ((ta2 ρ μ (dTail (fun μ1 => tb2 ρ μ1 Q) (fun μ1 => Q (.bl false) μ1)))) := ⟨fun q => w_andV q⟩
instance st_orV  : Step (dOrV ta2 tb2 ρ μ Q) ((ta2 ρ μ (dTail (fun μ1 => Q (.bl true) μ1) (fun μ1 => tb2 ρ μ1 Q)))) := ⟨fun q => w_orV q⟩
instance st_notV  : Step (dNotV ta2 ρ μ Q) (ta2 ρ μ (dNotK Q)) := ⟨fun q => w_notV q⟩
instance st_notK {b : Bool} : Step (dNotK Q (.bl b) μ) (Q (.bl (!b)) μ) := ⟨fun q => w_notK q⟩
instance st_chain {r r' : DR2} : Step (dChain r r' ta2 tb2 tc2 ρ μ Q) ((ta2 ρ μ fun x μ1 => tb2 ρ μ1 fun y μ2 => r x y μ2 (dTail (fun μ3 => tc2 ρ μ3 fun z μ4 => r' y z μ4 Q) (fun μ3 => Q (.bl false) μ3)))) := ⟨fun q => w_chain q⟩
instance st_call  : Step (dCall sp tl2 ρ μ Q) ((tl2 ρ μ fun ds μ1 => sp ds μ1 Q NoX)) := ⟨fun q => w_call q⟩
instance st_cb {r : DRC} : Step (dCB r tl2 ρ μ Q) ((tl2 ρ μ fun ds μ1 => r ds μ1 Q)) := ⟨fun q => w_cb q⟩
instance st_nil {QA : List D → Mu → Prop} : Step (dNil ρ μ QA) (QA [] μ) := ⟨fun q => w_nil q⟩
instance st_cons {QA : List D → Mu → Prop} : Step (dCons ta2 tl2 ρ μ QA) ((ta2 ρ μ fun x μ1 => tl2 ρ μ1 fun xs μ2 => QA (x :: xs) μ2)) := ⟨fun q => w_cons q⟩
instance st_tup  : Step (dTup tl2 ρ μ Q) (tl2 ρ μ (dTupK Q)) := ⟨fun q => w_tup q⟩
instance st_lst  : Step (dLst tl2 ρ μ Q) ((tl2 ρ μ fun ds μ1 => dNewL ds μ1 Q)) := ⟨fun q => w_lst q⟩
instance st_fz  : Step (dFz te2 ρ μ Q) (te2 ρ μ (dFzK Q)) := ⟨fun q => w_fz q⟩
instance st_fzL  : Step (dFzL te2 ρ μ Q) (te2 ρ μ (dFzLK Q)) := ⟨fun q => w_fzL q⟩
instance st_leS {i j : Str} : Step (dLeS (.str i) (.str j) μ Q) (Q (.bl (!decide (j.cps.toList < i.cps.toList))) μ) := ⟨fun q => w_leS q⟩
instance st_pairs {trs : List (TE2 × TE2)} {QA : List (D × D) → Mu → Prop} : Step (dPairs ((ti2, te2) :: trs) ρ μ QA) ((ti2 ρ μ fun x μ1 => te2 ρ μ1 fun y μ2 => dPairs trs ρ μ2 fun ps μ3 => QA ((x, y) :: ps) μ3)) := ⟨fun q => w_pairs q⟩
instance st_pairs0 {QA : List (D × D) → Mu → Prop} : Step (dPairs [] ρ μ QA) (QA [] μ) := ⟨fun q => w_pairs0 q⟩
instance st_addI {i j : Int} : Step (dAdd (.int i) (.int j) μ Q) (Q (.int (i + j)) μ) := ⟨fun q => w_addI q⟩
instance st_sub {i j : Int} {μ : Mu} {Q : DK} : Step (dSub (.int i) (.int j) μ Q) (Q (.int (i - j)) μ) := ⟨fun q => w_sub q⟩
instance st_bitand {i j : Int} {μ : Mu} {Q : DK} : Step (dBitAnd (.int i) (.int j) μ Q) (Q (.int (Builtin.bitAnd i j)) μ) := ⟨fun q => w_bitand q⟩
instance st_bitor {i j : Int} {μ : Mu} {Q : DK} : Step (dBitOr (.int i) (.int j) μ Q) (Q (.int (Builtin.bitOr i j)) μ) := ⟨fun q => w_bitor q⟩
instance st_bitxor {i j : Int} {μ : Mu} {Q : DK} : Step (dBitXor (.int i) (.int j) μ Q) (Q (.int (Builtin.bitXor i j)) μ) := ⟨fun q => w_bitxor q⟩
instance st_neg {i : Int} {μ : Mu} {Q : DK} : Step (dNeg (.int i) μ Q) (Q (.int (-i)) μ) := ⟨fun q => w_neg q⟩
instance st_lt {i j : Int} {μ : Mu} {Q : DK} : Step (dLt (.int i) (.int j) μ Q) (Q (.bl (decide (i < j))) μ) := ⟨fun q => w_lt q⟩
instance st_le {i j : Int} {μ : Mu} {Q : DK} : Step (dLe (.int i) (.int j) μ Q) (Q (.bl (decide (i ≤ j))) μ) := ⟨fun q => w_le q⟩
instance st_gt {i j : Int} {μ : Mu} {Q : DK} : Step (dGt (.int i) (.int j) μ Q) (Q (.bl (decide (j < i))) μ) := ⟨fun q => w_gt q⟩
instance st_ge {i j : Int} {μ : Mu} {Q : DK} : Step (dGe (.int i) (.int j) μ Q) (Q (.bl (decide (j ≤ i))) μ) := ⟨fun q => w_ge q⟩
instance st_isN1  : Step (dIsN .non .non μ Q) (Q (.bl true) μ) := ⟨fun q => w_isN1 q⟩
instance st_notN1  : Step (dNotN .non .non μ Q) (Q (.bl false) μ) := ⟨fun q => w_notN1 q⟩
instance st_isB {a b : Bool} : Step (dIsB (.bl a) (.bl b) μ Q) (Q (.bl (decide (a = b))) μ) := ⟨fun q => w_isB q⟩
instance st_notB {a b : Bool} : Step (dNotB (.bl a) (.bl b) μ Q) (Q (.bl (!decide (a = b))) μ) := ⟨fun q => w_notB q⟩
instance st_lenT {ds : List D} : Step (dLen [.tup ds] μ Q) (Q (.int ds.length) μ) := ⟨fun q => w_lenT q⟩
instance st_lenR {ns : List Int} : Step (dLen [.scr ns] μ Q) (Q (.int ns.length) μ) := ⟨fun q => w_lenR q⟩
instance st_int1 {i : Int} : Step (dInt1 [.int i] μ Q) (Q (.int i) μ) := ⟨fun q => w_int1 q⟩
instance st_jRv1 {R : List D → (Mu → Prop) → Mu → Prop} : Step (jRv1 te2 ρ μ R) (te2 ρ μ (jRv1K R)) := ⟨fun q => w_jRv1 q⟩
instance st_lrg1  : Step (dLstRg1 te2 ρ μ Q) (te2 ρ μ (dLstRg1K Q)) := ⟨fun q => w_lrg1 q⟩
instance st_intB {k : Bool} : Step (dInt1 [.bl k] μ Q) (Q (.int (if k then 1 else 0)) μ) := ⟨fun q => w_intB q⟩
instance st_max2 {i j : Int} : Step (dMax2 [.int i, .int j] μ Q) (Q (.int (if j > i then j else i)) μ) := ⟨fun q => w_max2 q⟩
instance st_min2 {i j : Int} : Step (dMin2 [.int i, .int j] μ Q) (Q (.int (if j < i then j else i)) μ) := ⟨fun q => w_min2 q⟩
instance st_sl {tlo thi : TO2} : Step (dSl te2 tlo thi ρ μ Q) ((te2 ρ μ fun x μ1 => tlo ρ μ1 fun lo μ2 => thi ρ μ2 fun hi μ3 => dCut x lo hi μ3 Q)) := ⟨fun q => w_sl q⟩
instance st_noPart {QO : Option Int → Mu → Prop} : Step (dNoPart ρ μ QO) (QO none μ) := ⟨fun q => w_noPart q⟩
instance st_part {QO : Option Int → Mu → Prop} : Step (dPart te2 ρ μ QO) (te2 ρ μ (dPartK QO)) := ⟨fun q => w_part q⟩
instance st_partK {QO : Option Int → Mu → Prop} {i : Int} : Step (dPartK QO (.int i) μ) (QO (some i) μ) := ⟨fun q => w_partK q⟩
instance st_cutT {ds : List D} {lo hi : Option Int} : Step (dCut (.tup ds) lo hi μ Q) (Q (.tup (cutD ds lo hi)) μ) := ⟨fun q => w_cutT q⟩
instance st_drop {n b c : Env2 → Mu → Prop} {r : DK} : Step (dDrop te2 ⟨n, r, b, c⟩ ρ μ) ((te2 ρ μ fun _ μ1 => n ρ μ1)) := ⟨fun q => w_drop q⟩
instance st_bm {T : String} {r : DRM} : Step (dBM T r to2 tl2 ρ μ Q) ((to2 ρ μ fun x μ1 => dTy T x μ1 (tl2 ρ μ1 fun xs μ2 => r x xs μ2 Q))) := ⟨fun q => w_bm q⟩
instance st_bm0 {T : String} {r : DRM} : Step (dBM0 T r to2 ρ μ Q) ((to2 ρ μ fun x μ1 => dTy T x μ1 (r x [] μ1 Q))) := ⟨fun q => w_bm0 q⟩
instance st_m1 {r : D → D → Mu → DK → Prop} : Step (dM1 r to2 te2 ρ μ Q) ((to2 ρ μ fun x μ1 => dTy "str" x μ1 (te2 ρ μ1 fun y μ2 => r x y μ2 Q))) := ⟨fun q => w_m1 q⟩
instance st_tyS {z : Str} {P : Prop} : Step (dTy "str" (.str z) μ P) (P) := ⟨fun q => w_tyS q⟩
instance st_repl  : Step (dReplC to2 y z ρ μ Q) (to2 ρ μ (dReplK y z Q)) := ⟨fun q => w_repl q⟩
instance st_gIx {ti : TE2} {d : D} {QE : Env2 → Mu → Prop} : Step (gIx to2 ti d ρ μ QE) ((to2 ρ μ fun o μ1 => ti ρ μ1 fun i μ2 => gIxK d ρ QE o i μ2)) := ⟨fun q => w_gIx q⟩
instance st_gCons {t : TG2} {u : TGs2} {d : D} {r : List D} {QE : Env2 → Mu → Prop} : Step (gCons2 t u (d :: r) ρ μ QE) ((t d ρ μ fun ρ1 μ1 => u r ρ1 μ1 QE)) := ⟨fun q => w_gCons q⟩
instance st_gNil {QE : Env2 → Mu → Prop} : Step (gNil2 [] ρ μ QE) (QE ρ μ) := ⟨fun q => w_gNil q⟩
instance st_next {n b c : Env2 → Mu → Prop} {r : DK} : Step (dNext ⟨n, r, b, c⟩ ρ μ) (n ρ μ) := ⟨fun q => w_next q⟩
instance st_for {wi : TI2} {g : TG2} : Step (dFor wi g ts2 D2 ρ μ) ((wi ρ μ fun xs G μ1 => Cl (dTurns G g ts2 D2 xs) ρ μ1)) := ⟨fun q => w_for q⟩
instance st_jL {R : List D → (Mu → Prop) → Mu → Prop} : Step (jL te2 ρ μ R) (te2 ρ μ (jLK R)) := ⟨fun q => w_jL q⟩
instance st_jT {R : List D → (Mu → Prop) → Mu → Prop} : Step (jT te2 ρ μ R) (te2 ρ μ (jTK R)) := ⟨fun q => w_jT q⟩
instance st_jTK {R : List D → (Mu → Prop) → Mu → Prop} {ds : List D} : Step (jTK R (.tup ds) μ) ((R ds (fun _ => True) μ)) := ⟨fun q => w_jTK q⟩
instance st_jS {R : List D → (Mu → Prop) → Mu → Prop} : Step (jS te2 ρ μ R) (te2 ρ μ (jSK R)) := ⟨fun q => w_jS q⟩
instance st_jSK {R : List D → (Mu → Prop) → Mu → Prop} {z : Str} : Step (jSK R (.str z) μ) ((R (sgnD z) (fun _ => True) μ)) := ⟨fun q => w_jSK q⟩
instance st_jR1 {R : List D → (Mu → Prop) → Mu → Prop} : Step (jR1 tl2 ρ μ R) (tl2 ρ μ (jR1K R)) := ⟨fun q => w_jR1 q⟩
instance st_jR2 {R : List D → (Mu → Prop) → Mu → Prop} : Step (jR2 tl2 ρ μ R) (tl2 ρ μ (jR2K R)) := ⟨fun q => w_jR2 q⟩
instance st_jZ {R : List D → (Mu → Prop) → Mu → Prop} : Step (jZ tl2 ρ μ R) (tl2 ρ μ (jZK R)) := ⟨fun q => w_jZ q⟩
instance st_jZT {R : List D → (Mu → Prop) → Mu → Prop} {ds es : List D} : Step (jZK R [.tup ds, .tup es] μ) ((R (prsD ds es) (fun _ => True) μ)) := ⟨fun q => w_jZT q⟩
instance st_jE {R : List D → (Mu → Prop) → Mu → Prop} : Step (jE tl2 ρ μ R) (tl2 ρ μ (jEK R)) := ⟨fun q => w_jE q⟩
instance st_jV {R : List D → (Mu → Prop) → Mu → Prop} : Step (jV te2 ρ μ R) (te2 ρ μ (jVK R)) := ⟨fun q => w_jV q⟩
instance st_jVT {R : List D → (Mu → Prop) → Mu → Prop} {ds : List D} : Step (jVK R (.tup ds) μ) ((R ds.reverse (fun _ => True) μ)) := ⟨fun q => w_jVT q⟩
instance st_revL  : Step (dRevL te2 ρ μ Q) (te2 ρ μ (dRevK Q)) := ⟨fun q => w_revL q⟩
instance st_lc {wi : TI2} {g : TG2} {vs : List Nat} : Step (dLc wi g tt2 te2 vs ρ μ Q) ((wi ρ μ fun xs G μ1 => dLcs G g tt2 te2 (wipe2 ρ vs) Q xs [] μ1)) := ⟨fun q => w_lc q⟩
instance st_yes  : Step (dYes ρ μ T F) (T μ) := ⟨fun q => w_yes q⟩
instance st_isiT {cs : List String} : Step (dIsiT cs ta2 ρ μ Q) (ta2 ρ μ (dIsiTK cs Q)) := ⟨fun q => w_isiT q⟩
instance st_fld  : Step (dFld C f ta2 ρ μ Q) (ta2 ρ μ (dFldK C f Q)) := ⟨fun q => w_fld q⟩
instance st_putF {n b c : Env2 → Mu → Prop} {r : DK} : Step (dPutF C f ta2 tb2 ⟨n, r, b, c⟩ ρ μ) ((tb2 ρ μ fun v μ1 => ta2 ρ μ1 (dPutFK C f v (n ρ)))) := ⟨fun q => w_putF q⟩
instance st_meth  : Step (dMeth C m sp to2 tl2 ρ μ Q) ((to2 ρ μ fun d μ1 => dMethK C m (tl2 ρ μ1 fun ds μ2 => sp (d :: ds) μ2 Q NoX) d μ1)) := ⟨fun q => w_meth q⟩
instance st_make  : Step (dMake C sp tl2 ρ μ Q) (tl2 ρ μ (dMakeK C sp Q)) := ⟨fun q => w_make q⟩
instance st_fzO  : Step (dFzO C te2 ρ μ Q) (te2 ρ μ (dFzOK C Q)) := ⟨fun q => w_fzO q⟩
instance st_fmt  : Step (dFmt te2 ρ μ Q) (te2 ρ μ (dFmtK Q)) := ⟨fun q => w_fmt q⟩
instance st_js0 {acc : Str} : Step (dJs [] acc ρ μ Q) (Q (.str acc) μ) := ⟨fun q => w_js0 q⟩
instance st_js {t : TE2} {ts : List TE2} {acc : Str} : Step (dJs (t :: ts) acc ρ μ Q) (t ρ μ (dJsK ts acc ρ Q)) := ⟨fun q => w_js q⟩
instance st_ss  : Step (dSS ta2 ρ μ Q) (ta2 ρ μ (dSSK Q)) := ⟨fun q => w_ss q⟩
instance st_get2  : Step (dGet2 to2 te2 tf2 ρ μ Q) ((to2 ρ μ fun x μ1 => dGet2K (te2 ρ μ1 fun y μ2 => tf2 ρ μ2 (dGet2L x y Q)) x μ1)) := ⟨fun q => w_get2 q⟩
/-! what a built-in class tells of what was written out -/
instance st_lenL {ds : List D} : Step (dLen [.lst ds] μ Q) (Q (.int ds.length) μ) := ⟨fun q => w_lenL rfl q⟩
instance st_jLKl {R : List D → (Mu → Prop) → Mu → Prop} {ds : List D} : Step (jLK R (.lst ds) μ) (R ds (Still (.lst ds) ds) μ) := ⟨fun q => w_jLK rfl q⟩
instance st_jELl {R : List D → (Mu → Prop) → Mu → Prop} {ds : List D} : Step (jEK R [.lst ds] μ) (R (enuD 0 ds) (Still (.lst ds) ds) μ) := ⟨fun q => w_jEL rfl q⟩
instance st_jVLl {R : List D → (Mu → Prop) → Mu → Prop} {ds : List D} : Step (jVK R (.lst ds) μ) (R ds.reverse (Still (.lst ds) ds) μ) := ⟨fun q => w_jVL rfl q⟩
instance st_jZLl {R : List D → (Mu → Prop) → Mu → Prop} {ds es : List D} : Step (jZK R [.lst ds, .lst es] μ) (R (prsD ds es) (fun μ => Still (.lst ds) ds μ ∧ Still (.lst es) es μ) μ) := ⟨fun q => w_jZL rfl rfl q⟩
instance st_tyLl {ds : List D} {P : Prop} : Step (dTy "list" (.lst ds) μ P) P := ⟨fun q => w_tyL rfl q⟩
instance st_tupOfT {ds : List D} : Step (dTupOf [.tup ds] μ Q) (Q (.tup ds) μ) := ⟨fun q => w_tupOf rfl q⟩
instance st_tupOfL {ds : List D} : Step (dTupOf [.lst ds] μ Q) (Q (.tup ds) μ) := ⟨fun q => w_tupOf rfl q⟩
instance st_fzLi {i : Int} : Step (dFzLK Q (.int i) μ) (Q (.int i) μ) := ⟨fun q => w_fzL0 q⟩
instance st_fzLs {i : Str} : Step (dFzLK Q (.str i) μ) (Q (.str i) μ) := ⟨fun q => w_fzL0 q⟩
instance st_fzLt {i : List D} : Step (dFzLK Q (.tup i) μ) (Q (.tup i) μ) := ⟨fun q => w_fzL0 q⟩
instance st_fzLl {i : List D} : Step (dFzLK Q (.lst i) μ) (Q (.lst i) μ) := ⟨fun q => w_fzL0 q⟩
instance st_brT {A B : Prop} : Step (Br true A B) A := ⟨br_t⟩
instance st_brF {A B : Prop} : Step (Br false A B) B := ⟨br_f⟩
instance st_brN {b : Bool} {A B : Prop} : Step (Br (!b) A B) (Br b B A) := ⟨br_not⟩
instance st_brA {a b : Bool} {A B : Prop} : Step (Br (a && b) A B) (Br a (Br b A B) B) := ⟨br_and⟩
instance st_brO {a b : Bool} {A B : Prop} : Step (Br (a || b) A B) (Br a A (Br b A B)) := ⟨br_or⟩
instance st_isi_non_int  : Step (dIsi [.non, .ty "int"] μ Q) (Q (.bl false) μ) := ⟨fun q => w_isi rfl isi_ni q⟩
instance st_isi_non_bool  : Step (dIsi [.non, .ty "bool"] μ Q) (Q (.bl false) μ) := ⟨fun q => w_isi rfl isi_nb q⟩
instance st_isi_non_str  : Step (dIsi [.non, .ty "str"] μ Q) (Q (.bl false) μ) := ⟨fun q => w_isi rfl isi_ns q⟩
instance st_isi_non_list  : Step (dIsi [.non, .ty "list"] μ Q) (Q (.bl false) μ) := ⟨fun q => w_isi rfl isi_nl q⟩
instance st_isi_non_tuple  : Step (dIsi [.non, .ty "tuple"] μ Q) (Q (.bl false) μ) := ⟨fun q => w_isi rfl isi_nt q⟩
instance st_isi_bl_int {v : Bool} : Step (dIsi [(.bl v), .ty "int"] μ Q) (Q (.bl true) μ) := ⟨fun q => w_isi rfl isi_bi q⟩
instance st_isi_bl_bool {v : Bool} : Step (dIsi [(.bl v), .ty "bool"] μ Q) (Q (.bl true) μ) := ⟨fun q => w_isi rfl isi_bb q⟩
instance st_isi_bl_str {v : Bool} : Step (dIsi [(.bl v), .ty "str"] μ Q) (Q (.bl false) μ) := ⟨fun q => w_isi rfl isi_bs q⟩
instance st_isi_bl_list {v : Bool} : Step (dIsi [(.bl v), .ty "list"] μ Q) (Q (.bl false) μ) := ⟨fun q => w_isi rfl isi_bl q⟩
instance st_isi_bl_tuple {v : Bool} : Step (dIsi [(.bl v), .ty "tuple"] μ Q) (Q (.bl false) μ) := ⟨fun q => w_isi rfl isi_bt q⟩
instance st_isi_int_int {v : Int} : Step (dIsi [(.int v), .ty "int"] μ Q) (Q (.bl true) μ) := ⟨fun q => w_isi rfl isi_ii q⟩
instance st_isi_int_bool {v : Int} : Step (dIsi [(.int v), .ty "bool"] μ Q) (Q (.bl false) μ) := ⟨fun q => w_isi rfl isi_ib q⟩
instance st_isi_int_str {v : Int} : Step (dIsi [(.int v), .ty "str"] μ Q) (Q (.bl false) μ) := ⟨fun q => w_isi rfl isi_is q⟩
instance st_isi_int_list {v : Int} : Step (dIsi [(.int v), .ty "list"] μ Q) (Q (.bl false) μ) := ⟨fun q => w_isi rfl isi_il q⟩
instance st_isi_int_tuple {v : Int} : Step (dIsi [(.int v), .ty "tuple"] μ Q) (Q (.bl false) μ) := ⟨fun q => w_isi rfl isi_it q⟩
instance st_isi_str_int {v : Str} : Step (dIsi [(.str v), .ty "int"] μ Q) (Q (.bl false) μ) := ⟨fun q => w_isi rfl isi_si q⟩
instance st_isi_str_bool {v : Str} : Step (dIsi [(.str v), .ty "bool"] μ Q) (Q (.bl false) μ) := ⟨fun q => w_isi rfl isi_sb q⟩
instance st_isi_str_str {v : Str} : Step (dIsi [(.str v), .ty "str"] μ Q) (Q (.bl true) μ) := ⟨fun q => w_isi rfl isi_ss q⟩
instance st_isi_str_list {v : Str} : Step (dIsi [(.str v), .ty "list"] μ Q) (Q (.bl false) μ) := ⟨fun q => w_isi rfl isi_sl q⟩
instance st_isi_str_tuple {v : Str} : Step (dIsi [(.str v), .ty "tuple"] μ Q) (Q (.bl false) μ) := ⟨fun q => w_isi rfl isi_st q⟩
instance st_isi_tup_int {v : List D} : Step (dIsi [(.tup v), .ty "int"] μ Q) (Q (.bl false) μ) := ⟨fun q => w_isi rfl isi_ti q⟩
instance st_isi_tup_bool {v : List D} : Step (dIsi [(.tup v), .ty "bool"] μ Q) (Q (.bl false) μ) := ⟨fun q => w_isi rfl isi_tb q⟩
instance st_isi_tup_str {v : List D} : Step (dIsi [(.tup v), .ty "str"] μ Q) (Q (.bl false) μ) := ⟨fun q => w_isi rfl isi_ts q⟩
instance st_isi_tup_list {v : List D} : Step (dIsi [(.tup v), .ty "list"] μ Q) (Q (.bl false) μ) := ⟨fun q => w_isi rfl isi_tl q⟩
instance st_isi_tup_tuple {v : List D} : Step (dIsi [(.tup v), .ty "tuple"] μ Q) (Q (.bl true) μ) := ⟨fun q => w_isi rfl isi_tt q⟩
instance st_isi_lst_int {v : List D} : Step (dIsi [(.lst v), .ty "int"] μ Q) (Q (.bl false) μ) := ⟨fun q => w_isi rfl isi_li q⟩
instance st_isi_lst_bool {v : List D} : Step (dIsi [(.lst v), .ty "bool"] μ Q) (Q (.bl false) μ) := ⟨fun q => w_isi rfl isi_lb q⟩
instance st_isi_lst_str {v : List D} : Step (dIsi [(.lst v), .ty "str"] μ Q) (Q (.bl false) μ) := ⟨fun q => w_isi rfl isi_ls q⟩
instance st_isi_lst_list {v : List D} : Step (dIsi [(.lst v), .ty "list"] μ Q) (Q (.bl true) μ) := ⟨fun q => w_isi rfl isi_ll q⟩
instance st_isi_lst_tuple {v : List D} : Step (dIsi [(.lst v), .ty "tuple"] μ Q) (Q (.bl false) μ) := ⟨fun q => w_isi rfl isi_lt q⟩
instance st_eq_int_int {v1 : Int} {v2 : Int} : Step (dEq (.int v1) (.int v2) μ Q) (Q (.bl (decide (v1 = v2))) μ) := ⟨fun q => w_eqS rfl q⟩
instance st_ne_int_int {v1 : Int} {v2 : Int} : Step (dNe (.int v1) (.int v2) μ Q) (Q (.bl (!(decide (v1 = v2)))) μ) := ⟨fun q => w_neS rfl q⟩
instance st_eq_bl_bl {v1 : Bool} {v2 : Bool} : Step (dEq (.bl v1) (.bl v2) μ Q) (Q (.bl (decide (v1 = v2))) μ) := ⟨fun q => w_eqS rfl q⟩
instance st_ne_bl_bl {v1 : Bool} {v2 : Bool} : Step (dNe (.bl v1) (.bl v2) μ Q) (Q (.bl (!(decide (v1 = v2)))) μ) := ⟨fun q => w_neS rfl q⟩
instance st_eq_str_str {v1 : Str} {v2 : Str} : Step (dEq (.str v1) (.str v2) μ Q) (Q (.bl (decide (v1 = v2))) μ) := ⟨fun q => w_eqS rfl q⟩
instance st_ne_str_str {v1 : Str} {v2 : Str} : Step (dNe (.str v1) (.str v2) μ Q) (Q (.bl (!(decide (v1 = v2)))) μ) := ⟨fun q => w_neS rfl q⟩
instance st_eq_non_non   : Step (dEq .non .non μ Q) (Q (.bl (true)) μ) := ⟨fun q => w_eqS rfl q⟩
instance st_ne_non_non   : Step (dNe .non .non μ Q) (Q (.bl (!true)) μ) := ⟨fun q => w_neS rfl q⟩
instance st_eq_non_int  {v2 : Int} : Step (dEq .non (.int v2) μ Q) (Q (.bl (false)) μ) := ⟨fun q => w_eqS rfl q⟩
instance st_ne_non_int  {v2 : Int} : Step (dNe .non (.int v2) μ Q) (Q (.bl (!false)) μ) := ⟨fun q => w_neS rfl q⟩
instance st_eq_non_bl  {v2 : Bool} : Step (dEq .non (.bl v2) μ Q) (Q (.bl (false)) μ) := ⟨fun q => w_eqS rfl q⟩
instance st_ne_non_bl  {v2 : Bool} : Step (dNe .non (.bl v2) μ Q) (Q (.bl (!false)) μ) := ⟨fun q => w_neS rfl q⟩
instance st_eq_non_str  {v2 : Str} : Step (dEq .non (.str v2) μ Q) (Q (.bl (false)) μ) := ⟨fun q => w_eqS rfl q⟩
instance st_ne_non_str  {v2 : Str} : Step (dNe .non (.str v2) μ Q) (Q (.bl (!false)) μ) := ⟨fun q => w_neS rfl q⟩
instance st_eq_int_non {v1 : Int}  : Step (dEq (.int v1) .non μ Q) (Q (.bl (false)) μ) := ⟨fun q => w_eqS rfl q⟩
instance st_ne_int_non {v1 : Int}  : Step (dNe (.int v1) .non μ Q) (Q (.bl (!false)) μ) := ⟨fun q => w_neS rfl q⟩
instance st_eq_int_str {v1 : Int} {v2 : Str} : Step (dEq (.int v1) (.str v2) μ Q) (Q (.bl (false)) μ) := ⟨fun q => w_eqS rfl q⟩
instance st_ne_int_str {v1 : Int} {v2 : Str} : Step (dNe (.int v1) (.str v2) μ Q) (Q (.bl (!false)) μ) := ⟨fun q => w_neS rfl q⟩
instance st_eq_bl_non {v1 : Bool}  : Step (dEq (.bl v1) .non μ Q) (Q (.bl (false)) μ) := ⟨fun q => w_eqS rfl q⟩
instance st_ne_bl_non {v1 : Bool}  : Step (dNe (.bl v1) .non μ Q) (Q (.bl (!false)) μ) := ⟨fun q => w_neS rfl q⟩
instance st_eq_bl_str {v1 : Bool} {v2 : Str} : Step (dEq (.bl v1) (.str v2) μ Q) (Q (.bl (false)) μ) := ⟨fun q => w_eqS rfl q⟩
instance st_ne_bl_str {v1 : Bool} {v2 : Str} : Step (dNe (.bl v1) (.str v2) μ Q) (Q (.bl (!false)) μ) := ⟨fun q => w_neS rfl q⟩
instance st_eq_str_non {v1 : Str}  : Step (dEq (.str v1) .non μ Q) (Q (.bl (false)) μ) := ⟨fun q => w_eqS rfl q⟩
instance st_ne_str_non {v1 : Str}  : Step (dNe (.str v1) .non μ Q) (Q (.bl (!false)) μ) := ⟨fun q => w_neS rfl q⟩
instance st_eq_str_int {v1 : Str} {v2 : Int} : Step (dEq (.str v1) (.int v2) μ Q) (Q (.bl (false)) μ) := ⟨fun q => w_eqS rfl q⟩
instance st_ne_str_int {v1 : Str} {v2 : Int} : Step (dNe (.str v1) (.int v2) μ Q) (Q (.bl (!false)) μ) := ⟨fun q => w_neS rfl q⟩
instance st_eq_str_bl {v1 : Str} {v2 : Bool} : Step (dEq (.str v1) (.bl v2) μ Q) (Q (.bl (false)) μ) := ⟨fun q => w_eqS rfl q⟩
instance st_ne_str_bl {v1 : Str} {v2 : Bool} : Step (dNe (.str v1) (.bl v2) μ Q) (Q (.bl (!false)) μ) := ⟨fun q => w_neS rfl q⟩
instance st_isN_bl {v : Bool} : Step (dIsN (.bl v) .non μ Q) (Q (.bl false) μ) := ⟨fun q => w_isN0 (fun z => nomatch z) q⟩
instance st_notN_bl {v : Bool} : Step (dNotN (.bl v) .non μ Q) (Q (.bl true) μ) := ⟨fun q => w_notN0 (fun z => nomatch z) q⟩
instance st_isN_int {v : Int} : Step (dIsN (.int v) .non μ Q) (Q (.bl false) μ) := ⟨fun q => w_isN0 (fun z => nomatch z) q⟩
instance st_notN_int {v : Int} : Step (dNotN (.int v) .non μ Q) (Q (.bl true) μ) := ⟨fun q => w_notN0 (fun z => nomatch z) q⟩
instance st_isN_str {v : Str} : Step (dIsN (.str v) .non μ Q) (Q (.bl false) μ) := ⟨fun q => w_isN0 (fun z => nomatch z) q⟩
instance st_notN_str {v : Str} : Step (dNotN (.str v) .non μ Q) (Q (.bl true) μ) := ⟨fun q => w_notN0 (fun z => nomatch z) q⟩
instance st_isN_tup {v : List D} : Step (dIsN (.tup v) .non μ Q) (Q (.bl false) μ) := ⟨fun q => w_isN0 (fun z => nomatch z) q⟩
instance st_notN_tup {v : List D} : Step (dNotN (.tup v) .non μ Q) (Q (.bl true) μ) := ⟨fun q => w_notN0 (fun z => nomatch z) q⟩
instance st_isN_lst {v : List D} : Step (dIsN (.lst v) .non μ Q) (Q (.bl false) μ) := ⟨fun q => w_isN0 (fun z => nomatch z) q⟩
instance st_notN_lst {v : List D} : Step (dNotN (.lst v) .non μ Q) (Q (.bl true) μ) := ⟨fun q => w_notN0 (fun z => nomatch z) q⟩
instance st_isN_adr {v : Addr} : Step (dIsN (.adr v) .non μ Q) (Q (.bl false) μ) := ⟨fun q => w_isN0 (fun z => nomatch z) q⟩
instance st_notN_adr {v : Addr} : Step (dNotN (.adr v) .non μ Q) (Q (.bl true) μ) := ⟨fun q => w_notN0 (fun z => nomatch z) q⟩
instance st_notN_obj {v : Addr} {ns : List Str} {ds : List D} : Step (dNotN (.obj v ns ds) .non μ Q) (Q (.bl true) μ) := ⟨fun q => w_notN0 (fun z => nomatch z) q⟩
instance st_isN_obj {v : Addr} {ns : List Str} {ds : List D} : Step (dIsN (.obj v ns ds) .non μ Q) (Q (.bl false) μ) := ⟨fun q => w_isN0 (fun z => nomatch z) q⟩
end
/-! groups of heads -/
class HdA (A : Prop) : Prop where
  go : A → A
class HdB (A : Prop) : Prop where
  go : A → A
class HdC (A : Prop) : Prop where
  go : A → A
class HdE (A : Prop) : Prop where
  go : A → A
instance hd_dTupK {a0} {a1} {a2} : HdA (dTupK a0 a1 a2) := ⟨fun q => q⟩
instance hd_dFzK {a0} {a1} {a2} : HdA (dFzK a0 a1 a2) := ⟨fun q => q⟩
instance hd_dFzLK {a0} {a1} {a2} : HdA (dFzLK a0 a1 a2) := ⟨fun q => q⟩
instance hd_dDisp {a0} {a1} {a2} {a3} : HdC (dDisp a0 a1 a2 a3) := ⟨fun q => q⟩
instance hd_dDNew {a0} {a1} {a2} : HdC (dDNew a0 a1 a2) := ⟨fun q => q⟩
instance hd_dListText {a0} {a1} {a2} : HdE (dListText a0 a1 a2) := ⟨fun q => q⟩
instance hd_dTupText {a0} {a1} {a2} : HdE (dTupText a0 a1 a2) := ⟨fun q => q⟩
instance hd_dDispK {a0} {a1} {a2} {a3} : HdC (dDispK a0 a1 a2 a3) := ⟨fun q => q⟩
instance hd_dDGet {a0} {a1} {a2} {a3} : HdC (dDGet a0 a1 a2 a3) := ⟨fun q => q⟩
instance hd_dInD {a0} {a1} {a2} {a3} : HdC (dInD a0 a1 a2 a3) := ⟨fun q => q⟩
instance hd_dNotInD {a0} {a1} {a2} {a3} : HdC (dNotInD a0 a1 a2 a3) := ⟨fun q => q⟩
instance hd_dNewL {a0} {a1} {a2} : HdB (dNewL a0 a1 a2) := ⟨fun q => q⟩
instance hd_dAdd {a0} {a1} {a2} {a3} : HdA (dAdd a0 a1 a2 a3) := ⟨fun q => q⟩
instance hd_dMulA {a0} {a1} {a2} {a3} : HdE (dMulA a0 a1 a2 a3) := ⟨fun q => q⟩
instance hd_dMod {a0} {a1} {a2} {a3} : HdE (dMod a0 a1 a2 a3) := ⟨fun q => q⟩
instance hd_dFdiv {a0} {a1} {a2} {a3} : HdE (dFdiv a0 a1 a2 a3) := ⟨fun q => q⟩
instance hd_dPow {a0} {a1} {a2} {a3} : HdE (dPow a0 a1 a2 a3) := ⟨fun q => q⟩
instance hd_dShl {a0} {a1} {a2} {a3} : HdE (dShl a0 a1 a2 a3) := ⟨fun q => q⟩
instance hd_dShr {a0} {a1} {a2} {a3} : HdE (dShr a0 a1 a2 a3) := ⟨fun q => q⟩
instance hd_dEq {a0} {a1} {a2} {a3} : HdA (dEq a0 a1 a2 a3) := ⟨fun q => q⟩
instance hd_dNe {a0} {a1} {a2} {a3} : HdA (dNe a0 a1 a2 a3) := ⟨fun q => q⟩
instance hd_dIsN {a0} {a1} {a2} {a3} : HdE (dIsN a0 a1 a2 a3) := ⟨fun q => q⟩
instance hd_dNotN {a0} {a1} {a2} {a3} : HdE (dNotN a0 a1 a2 a3) := ⟨fun q => q⟩
instance hd_dIx {a0} {a1} {a2} {a3} : HdA (dIx a0 a1 a2 a3) := ⟨fun q => q⟩
instance hd_dLen {a0} {a1} {a2} : HdA (dLen a0 a1 a2) := ⟨fun q => q⟩
instance hd_jRv1K {a0} {a1} {a2} : HdE (jRv1K a0 a1 a2) := ⟨fun q => q⟩
instance hd_dLstRg1K {a0} {a1} {a2} : HdE (dLstRg1K a0 a1 a2) := ⟨fun q => q⟩
instance hd_dIsi {a0} {a1} {a2} : HdE (dIsi a0 a1 a2) := ⟨fun q => q⟩
instance hd_dTupOf {a0} {a1} {a2} : HdE (dTupOf a0 a1 a2) := ⟨fun q => q⟩
instance hd_dListOf {a0} {a1} {a2} : HdE (dListOf a0 a1 a2) := ⟨fun q => q⟩
instance hd_dCut {a0} {a1} {a2} {a3} {a4} : HdA (dCut a0 a1 a2 a3 a4) := ⟨fun q => q⟩
instance hd_dTy {a0} {a1} {a2} {a3} : HdB (dTy a0 a1 a2 a3) := ⟨fun q => q⟩
instance hd_dApp {a0} {a1} {a2} {a3} : HdB (dApp a0 a1 a2 a3) := ⟨fun q => q⟩
instance hd_dExtend {a0} {a1} {a2} {a3} : HdE (dExtend a0 a1 a2 a3) := ⟨fun q => q⟩
instance hd_dClear {a0} {a1} {a2} {a3} : HdE (dClear a0 a1 a2 a3) := ⟨fun q => q⟩
instance hd_dReverse {a0} {a1} {a2} {a3} : HdE (dReverse a0 a1 a2 a3) := ⟨fun q => q⟩
instance hd_gIxK {a0} {a1} {a2} {a3} {a4} {a5} : HdB (gIxK a0 a1 a2 a3 a4 a5) := ⟨fun q => q⟩
instance hd_gUn {a0} {a1} {a2} {a3} {a4} {a5} : HdB (gUn a0 a1 a2 a3 a4 a5) := ⟨fun q => q⟩
instance hd_gCons2 {a0} {a1} {a2} {a3} {a4} {a5} : HdB (gCons2 a0 a1 a2 a3 a4 a5) := ⟨fun q => q⟩
instance hd_gNil2 {a0} {a1} {a2} {a3} : HdB (gNil2 a0 a1 a2 a3) := ⟨fun q => q⟩
instance hd_jLK {a0} {a1} {a2} : HdB (jLK a0 a1 a2) := ⟨fun q => q⟩
instance hd_jR1K {a0} {a1} {a2} : HdB (jR1K a0 a1 a2) := ⟨fun q => q⟩
instance hd_jR2K {a0} {a1} {a2} : HdB (jR2K a0 a1 a2) := ⟨fun q => q⟩
instance hd_jZK {a0} {a1} {a2} : HdB (jZK a0 a1 a2) := ⟨fun q => q⟩
instance hd_jEK {a0} {a1} {a2} : HdB (jEK a0 a1 a2) := ⟨fun q => q⟩
instance hd_jVK {a0} {a1} {a2} : HdB (jVK a0 a1 a2) := ⟨fun q => q⟩
instance hd_dRevK {a0} {a1} {a2} : HdE (dRevK a0 a1 a2) := ⟨fun q => q⟩
instance hd_dLcK {a0} {a1} {a2} {a3} {a4} {a5} {a6} {a7} {a8} {a9} : HdB (dLcK a0 a1 a2 a3 a4 a5 a6 a7 a8 a9) := ⟨fun q => q⟩
instance hd_dIsiTK {a0} {a1} {a2} {a3} : HdE (dIsiTK a0 a1 a2 a3) := ⟨fun q => q⟩
instance hd_dFldK {a0} {a1} {a2} {a3} {a4} : HdC (dFldK a0 a1 a2 a3 a4) := ⟨fun q => q⟩
instance hd_dPutFK {a0} {a1} {a2} {a3} {a4} {a5} : HdC (dPutFK a0 a1 a2 a3 a4 a5) := ⟨fun q => q⟩
instance hd_dMethK {a0} {a1} {a2} {a3} {a4} : HdC (dMethK a0 a1 a2 a3 a4) := ⟨fun q => q⟩
instance hd_dFzOK {a0} {a1} {a2} {a3} : HdC (dFzOK a0 a1 a2 a3) := ⟨fun q => q⟩
instance hd_dFmtK {a0} {a1} {a2} : HdC (dFmtK a0 a1 a2) := ⟨fun q => q⟩
instance hd_dJsK {a0} {a1} {a2} {a3} {a4} {a5} : HdC (dJsK a0 a1 a2 a3 a4 a5) := ⟨fun q => q⟩
instance hd_dStrI {a0} {a1} {a2} : HdC (dStrI a0 a1 a2) := ⟨fun q => q⟩
instance hd_dGet2K {a0} {a1} {a2} : HdC (dGet2K a0 a1 a2) := ⟨fun q => q⟩
instance hd_dGet2L {a0} {a1} {a2} {a3} {a4} : HdC (dGet2L a0 a1 a2 a3 a4) := ⟨fun q => q⟩
instance hd_dIxKd {a0} {a1} {a2} {a3} {a4} {a5} : HdC (dIxKd a0 a1 a2 a3 a4 a5) := ⟨fun q => q⟩
instance hd_dNotInKd {a0} {a1} {a2} {a3} {a4} {a5} : HdC (dNotInKd a0 a1 a2 a3 a4 a5) := ⟨fun q => q⟩
instance hd_dIsO {a0} {a1} {a2} {a3} : HdC (dIsO a0 a1 a2 a3) := ⟨fun q => q⟩
end Y

set_option Elab.async false
set_option linter.all false
set_option maxRecDepth 100000
set_option maxHeartbeats 4000000
namespace Y
open PySem PySem.Spec PyProof.Rows L2
/-! loops over what is known -/
variable {ρ : Env2} {μ : Mu} {Q : DK} {tt2 : TT2} {te2 : TE2} {ts2 : TS2} {G : Mu → Prop} {g : TG2} {n b c : Env2 → Mu → Prop} {r : DK} {α : Type}
/-- by what holds between the turns, whatever is left -/
theorem w_turnsM {xs : List D} (M : Env2 → Mu → Prop) (hG : ∀ ρ μ, M ρ μ → G μ)
    (hs : ∀ d ∈ xs, ∀ ρ μ, M ρ μ → ∀ N : Env2 → Mu → Prop, (∀ ρ μ, M ρ μ → N ρ μ) → g d ρ μ fun ρ2 μ2 => ts2 ⟨Cl N, r, n, Cl N⟩ ρ2 μ2) (hd : ∀ ρ μ, M ρ μ → n ρ μ) :
    ∀ ρ μ, M ρ μ → dTurns G g ts2 ⟨n, r, b, c⟩ xs ρ μ := fun ρ μ h =>
  w_turns (fun ys ρ μ => M ρ μ ∧ ∀ d ∈ ys, d ∈ xs) (fun _ _ _ h => hG _ _ h.1) (fun d ys ρ μ h N hN => hs d (h.2 d List.mem_cons_self) ρ μ h.1 N fun ρ μ h' => hN ρ μ ⟨h', fun e he => h.2 e (List.mem_cons_of_mem _ he)⟩) (fun ρ μ h => hd ρ μ h.1) xs ρ μ ⟨h, fun _ h => h⟩
/-- nothing is changed between the turns -/
theorem w_turnsC {xs : List D} (hG : G μ)
    (hs : ∀ d ∈ xs, ∀ N : Env2 → Mu → Prop, N ρ μ → g d ρ μ fun ρ2 μ2 => ts2 ⟨Cl N, r, n, Cl N⟩ ρ2 μ2) (hd : n ρ μ) :
    dTurns G g ts2 ⟨n, r, b, c⟩ xs ρ μ :=
  w_turnsM (fun ρ' μ' => ρ' = ρ ∧ μ' = μ) (fun _ _ h => h.2 ▸ hG) (fun d he ρ' μ' h N hN => by obtain ⟨rfl, rfl⟩ := h; exact hs d he N (hN _ _ ⟨rfl, rfl⟩)) (fun ρ' μ' h => by obtain ⟨rfl, rfl⟩ := h; exact hd) ρ μ ⟨rfl, rfl⟩
/-- by what was walked so far -/
theorem w_turnsI (f : α → D) {l : List α} (Iv : List α → Env2 → Mu → Prop) (hG : ∀ dn ρ μ, Iv dn ρ μ → G μ)
    (hs : ∀ dn x rs, l = dn ++ x :: rs → ∀ ρ μ, Iv dn ρ μ → ∀ N : Env2 → Mu → Prop, (∀ ρ μ, Iv (dn ++ [x]) ρ μ → N ρ μ) → g (f x) ρ μ fun ρ2 μ2 => ts2 ⟨Cl N, r, n, Cl N⟩ ρ2 μ2)
    (hd : ∀ ρ μ, Iv l ρ μ → n ρ μ) : ∀ ρ μ, Iv [] ρ μ → dTurns G g ts2 ⟨n, r, b, c⟩ (l.map f) ρ μ := fun ρ μ h =>
  w_turns (fun ys ρ μ => ∃ dn rs, l = dn ++ rs ∧ ys = rs.map f ∧ Iv dn ρ μ) (fun _ _ _ h => by obtain ⟨dn, rs, _, _, h⟩ := h; exact hG _ _ _ h)
    (fun d ys ρ μ h N hN => by
      obtain ⟨dn, rs, e1, e2, h⟩ := h
      cases rs with
      | nil => cases e2
      | cons x rs =>
        injection e2 with e2 e3
        subst e2
        exact hs dn x rs e1 ρ μ h N fun ρ μ h' => hN ρ μ ⟨dn ++ [x], rs, by rw [e1, List.append_assoc]; rfl, e3, h'⟩)
    (fun ρ μ h => by
      obtain ⟨dn, rs, e1, e2, h⟩ := h
      obtain rfl : rs = [] := by cases rs with | nil => rfl | cons _ _ => cases e2
      rw [List.append_nil] at e1
      subst e1
      exact hd ρ μ h) (l.map f) ρ μ ⟨[], l, rfl, rfl, h⟩
theorem rngD_map (lo : Int) (k : Nat) : rngD lo k = (List.range k).map fun i : Nat => D.int (lo + (i : Int)) := rfl
/-- .. over 0, 1, .. -/
theorem w_turnsR {k : Nat} {lo : Int} (Iv : Nat → Env2 → Mu → Prop) (hG : ∀ i ρ μ, Iv i ρ μ → G μ)
    (hs : ∀ i, i < k → ∀ ρ μ, Iv i ρ μ → ∀ N : Env2 → Mu → Prop, (∀ ρ μ, Iv (i + 1) ρ μ → N ρ μ) → g (.int (lo + (i : Nat))) ρ μ fun ρ2 μ2 => ts2 ⟨Cl N, r, n, Cl N⟩ ρ2 μ2)
    (hd : ∀ ρ μ, Iv k ρ μ → n ρ μ) : ∀ ρ μ, Iv 0 ρ μ → dTurns G g ts2 ⟨n, r, b, c⟩ (rngD lo k) ρ μ := fun ρ μ h => by
  rw [rngD_map]
  refine w_turnsI (fun i : Nat => D.int (lo + (i : Int))) (fun dn ρ μ => Iv dn.length ρ μ) (fun _ _ _ h => hG _ _ _ h) (fun dn x rs e ρ μ h N hN => ?_) (fun ρ μ h => hd ρ μ (by rw [List.length_range] at h; exact h)) ρ μ h
  have e2 : x = dn.length := by
    have h1 : (List.range k)[dn.length]? = some x := by rw [e, List.getElem?_append_right (Nat.le_refl _), Nat.sub_self]; rfl
    obtain ⟨h2, h3⟩ := List.getElem?_eq_some_iff.mp h1
    rw [List.getElem_range] at h3; exact h3.symm
  have h4 : dn.length < k := by
    have := congrArg List.length e
    rw [List.length_range, List.length_append, List.length_cons] at this; omega
  subst e2
  exact hs dn.length h4 ρ μ h N fun ρ μ h' => hN ρ μ (by rw [List.length_append]; exact h')
/-- enumerate -/
theorem enu_map {β : Type} (f : β → D) : ∀ (l : List β) (k : Nat), enuD k (l.map f) = (l.zipIdx k).map fun p => D.tup [.int ((p.2 : Nat) : Int), f p.1]
  | [], _ => rfl
  | x :: l, k => by
    show D.tup [.int (k : Int), f x] :: enuD (k + 1) (l.map f) = _
    rw [enu_map f l (k + 1)]; rfl
theorem w_turnsE (f : α → D) {l : List α} (Iv : List α → Env2 → Mu → Prop) (hG : ∀ dn ρ μ, Iv dn ρ μ → G μ)
    (hs : ∀ dn x rs, l = dn ++ x :: rs → ∀ ρ μ, Iv dn ρ μ → ∀ N : Env2 → Mu → Prop, (∀ ρ μ, Iv (dn ++ [x]) ρ μ → N ρ μ) → g (.tup [.int (dn.length : Nat), f x]) ρ μ fun ρ2 μ2 => ts2 ⟨Cl N, r, n, Cl N⟩ ρ2 μ2)
    (hd : ∀ ρ μ, Iv l ρ μ → n ρ μ) : ∀ ρ μ, Iv [] ρ μ → dTurns G g ts2 ⟨n, r, b, c⟩ (enuD 0 (l.map f)) ρ μ := fun ρ μ h => by
  rw [enu_map]
  refine w_turnsI (fun p : α × Nat => D.tup [.int ((p.2 : Nat) : Int), f p.1]) (fun dn ρ μ => Iv (dn.map (·.1)) ρ μ) (fun _ _ _ h => hG _ _ _ h) (fun dn x rs e ρ μ h N hN => ?_) (fun ρ μ h => hd ρ μ ?_) ρ μ h
  · have e1 : l = dn.map (·.1) ++ x.1 :: rs.map (·.1) := by
      have := congrArg (List.map (·.1)) e
      rw [List.map_append, List.map_cons, List.zipIdx_map_fst] at this; exact this
    have e2 : x.2 = dn.length := by
      have h1 : (l.zipIdx)[dn.length]? = some x := by rw [e, List.getElem?_append_right (Nat.le_refl _), Nat.sub_self]; rfl
      rw [List.getElem?_zipIdx] at h1
      cases q : l[dn.length]? with
      | none => rw [q] at h1; cases h1
      | some y => rw [q] at h1; cases h1; simp
    have := hs (dn.map (·.1)) x.1 (rs.map (·.1)) e1 ρ μ h N fun ρ μ h' => hN ρ μ (by rw [List.map_append]; exact h')
    rw [List.length_map, ← e2] at this
    exact this
  · rw [List.zipIdx_map_fst] at h; exact h
/-- comprehensions: what was walked, what was made -/
theorem w_lcI (f : α → D) {l : List α} (Iv : List α → List D → Mu → Prop) (hG : ∀ dn acc μ, Iv dn acc μ → G μ ∧ acc.length < sizeLine)
    (hs : ∀ dn x rs, l = dn ++ x :: rs → ∀ acc μ, Iv dn acc μ → ∀ (N : DK) (N0 : Mu → Prop), (∀ d μ', Iv (dn ++ [x]) (acc ++ [d]) μ' → N d μ') → (∀ μ', Iv (dn ++ [x]) acc μ' → N0 μ') → g (f x) ρ μ fun ρ2 μ2 => tt2 ρ2 μ2 (fun μ3 => te2 ρ2 μ3 N) N0)
    (hd : ∀ acc μ, Iv l acc μ → ∀ p, μ p = none → Q (.adr p) (mup μ p (.lst acc))) : ∀ μ, Iv [] [] μ → dLcs G g tt2 te2 ρ Q (l.map f) [] μ := fun μ h =>
  w_lcInv (fun ys acc μ => ∃ dn rs, l = dn ++ rs ∧ ys = rs.map f ∧ Iv dn acc μ) (fun _ _ _ h => by obtain ⟨dn, rs, _, _, h⟩ := h; exact hG _ _ _ h)
    (fun d ys acc μ h N N0 hN hN0 => by
      obtain ⟨dn, rs, e1, e2, h⟩ := h
      cases rs with
      | nil => cases e2
      | cons x rs =>
        injection e2 with e2 e3
        subst e2
        exact hs dn x rs e1 acc μ h N N0 (fun d μ' h' => hN d μ' ⟨dn ++ [x], rs, by rw [e1, List.append_assoc]; rfl, e3, h'⟩) fun μ' h' => hN0 μ' ⟨dn ++ [x], rs, by rw [e1, List.append_assoc]; rfl, e3, h'⟩)
    (fun acc μ h => by
      obtain ⟨dn, rs, e1, e2, h⟩ := h
      obtain rfl : rs = [] := by cases rs with | nil => rfl | cons _ _ => cases e2
      rw [List.append_nil] at e1
      subst e1
      exact hd acc μ h) (l.map f) [] μ ⟨[], l, rfl, rfl, h⟩
/-- .. where nothing is changed -/
theorem w_lcF (f : α → D) {l : List α} (h : α → Option D) (hG : G μ) (hl : l.length < sizeLine)
    (hs : ∀ x ∈ l, ∀ (N : DK) (N0 : Mu → Prop), (∀ d, h x = some d → N d μ) → (h x = none → N0 μ) → g (f x) ρ μ fun ρ2 μ2 => tt2 ρ2 μ2 (fun μ3 => te2 ρ2 μ3 N) N0)
    (hd : ∀ p, μ p = none → Q (.adr p) (mup μ p (.lst (l.filterMap h)))) : dLcs G g tt2 te2 ρ Q (l.map f) [] μ := by
  refine w_lcI f (fun dn acc μ' => μ' = μ ∧ acc = dn.filterMap h ∧ dn.length ≤ l.length) (fun dn acc μ' h' => ?_) (fun dn x rs e acc μ' h' N N0 hN hN0 => ?_) (fun acc μ' h' => ?_) μ ⟨rfl, rfl, Nat.zero_le _⟩
  · obtain ⟨rfl, rfl, h3⟩ := h'
    exact ⟨hG, Nat.lt_of_le_of_lt (Nat.le_trans (List.length_filterMap_le _ _) h3) hl⟩
  · obtain ⟨rfl, rfl, h3⟩ := h'
    have hl3 : (dn ++ [x]).length ≤ l.length := by rw [e, List.length_append, List.length_append, List.length_cons, List.length_cons, List.length_nil]; omega
    refine hs x (by rw [e]; exact List.mem_append_right _ List.mem_cons_self) N N0 (fun d hx => hN d _ ⟨rfl, ?_, hl3⟩) fun hx => hN0 _ ⟨rfl, ?_, hl3⟩
    · rw [List.filterMap_append, List.filterMap_cons, hx]; rfl
    · rw [List.filterMap_append, List.filterMap_cons, hx]; simp
  · obtain ⟨rfl, rfl, _⟩ := h'
    exact hd
theorem w_lcM (f : α → D) {l : List α} (h : α → D) (hG : G μ) (hl : l.length < sizeLine)
    (hs : ∀ x ∈ l, ∀ (N : DK) (N0 : Mu → Prop), N (h x) μ → g (f x) ρ μ fun ρ2 μ2 => tt2 ρ2 μ2 (fun μ3 => te2 ρ2 μ3 N) N0)
    (hd : ∀ p, μ p = none → Q (.adr p) (mup μ p (.lst (l.map h)))) : dLcs G g tt2 te2 ρ Q (l.map f) [] μ :=
  w_lcF f (fun x => some (h x)) hG hl (fun x hx N N0 hN _ => hs x hx N N0 (hN _ rfl)) (by rw [List.filterMap_eq_map']; exact hd)
end Y

set_option Elab.async false
set_option linter.all false
set_option maxRecDepth 100000
set_option maxHeartbeats 4000000
namespace Y
open PySem PySem.Spec PyProof.Rows L2
/-! the end: facts of the top, looked at by one run -/
abbrev Fb := PySem.W.Frag → Bool
abbrev AlY : Type := Bool × List He.FnV × List (Option (List (Option (Str × Int))))
def defB (K : PySem.W.Frag) (d : He.FnD) : Bool := (He.Fa.code d.at_ d.qual).ok K && PySem.W.keepIn K (.ref (He.fAd K d.at_))
def obsY (bs : List Fb) (fn : List He.FnD) (ts : List He.Tab) (K : PySem.W.Frag) : AlY := ((bs.all fun b => b K) && fn.all fun d => defB K d, fn.map fun d => He.fnObs K d.at_, ts.map fun t => He.dicW K (t.1 K))
def valY (fn : List He.FnD) (ts : List He.Tab) (w : World) : AlY := (true, fn.map He.FnD.val, ts.map fun t => some (He.keysIn w.params t.2))
def SaysY (bs : List Fb) (fn : List He.FnD) (ts : List He.Tab) (w : World) (K : PySem.W.Frag) : Prop := obsY bs fn ts K = valY fn ts w
/-- what is looked at: what the module's names stand for, classes' names, codes -/
def refsY (o : Obj) : List Addr := match o.data with
  | .dict es _ => es.toList.flatMap fun e => He.refV e.val
  | .func fd => He.refV fd.code
  | .cls cd => [cd.ns]
  | _ => []
def lvY (g : Addr → Option Obj) : Nat → List Addr → List Addr
  | 0, l => l
  | n + 1, l => l ++ lvY g n (l.flatMap fun a => match g a with
    | some o => refsY o
    | none => [])
def frY (g : Addr → Option Obj) (n : Nat) : PySem.W.Frag := He.frG g (PySem.cStatics :: lvY g n [mainGlobals])
def obsYG (n : Nat) (bs : List Fb) (fn : List He.FnD) (ts : List He.Tab) (g : Addr → Option Obj) : AlY := obsY bs fn ts (frY g n)
def hookY (n : Nat) (bs : List Fb) (fn : List He.FnD) (ts : List He.Tab) : PySem.W.Hook where
  α := AlY
  obs := fun s => obsYG n bs fn ts s.heap.get?
  val := fun w => valY fn ts w
  says := fun w h => ∃ K : PySem.W.Frag, K.In h ∧ SaysY bs fn ts w K
  of := fun _ _ e => ⟨_, He.frG_in, e⟩
  keeps := fun _ _ _ ⟨K, hK, c⟩ k => ⟨K, PySem.W.Frag.In.keeps hK k, c⟩
theorem obsYG_eq {n : Nat} {bs : List Fb} {fn : List He.FnD} {ts : List He.Tab} {g : Addr → Option Obj} {s : Shared} (h : ∀ a, g a = s.heap.get? a) : obsYG n bs fn ts g = (hookY n bs fn ts).obs s := by
  have e : g = s.heap.get? := funext h
  rw [e] <;> rfl
/-- a def by its statement -/
def fnD (at_ : Str × Option Str) (name qual : Str) (st : Stmt) : He.FnD := ⟨at_, name, qual, defArgs st, defBody st, defScope st⟩
section
variable {bs : List Fb} {fn : List He.FnD} {ts : List He.Tab} {w : World} {K : PySem.W.Frag}
theorem SaysY.b (c : SaysY bs fn ts w K) (i : Nat) {b : Fb} (h : bs[i]? = some b) : b K = true := by
  have c1 := (He.ba (show ((bs.all fun b => b K) && fn.all fun d => defB K d) = true from congrArg (fun z : AlY => z.1) c)).1
  exact List.all_eq_true.mp c1 b (List.mem_of_getElem? h)
theorem SaysY.df (c : SaysY bs fn ts w K) (i : Nat) {at_ : Str × Option Str} {name qual : Str} {st : Stmt} (h : fn[i]? = some (fnD at_ name qual st)) : ∃ fd, Fun K name qual st (He.fAd K at_) fd := by
  have c1 := (He.ba (show ((bs.all fun b => b K) && fn.all fun d => defB K d) = true from congrArg (fun z : AlY => z.1) c)).2
  obtain ⟨c2, kp⟩ := He.ba (show ((He.Fa.code (fnD at_ name qual st).at_ (fnD at_ name qual st).qual).ok K && PySem.W.keepIn K (.ref (He.fAd K (fnD at_ name qual st).at_))) = true from List.all_eq_true.mp c1 _ (List.mem_of_getElem? h))
  have e : fn.map (fun d => He.fnObs K d.at_) = fn.map He.FnD.val := congrArg (fun z : AlY => z.2.1) c
  have e2 : (fn.map fun d => He.fnObs K d.at_)[i]? = (fn.map He.FnD.val)[i]? := by rw [e]
  rw [List.getElem?_map, List.getElem?_map, h] at e2
  obtain ⟨oc, od, osl, kV, doc, pm, an, cdv, ct, lk, hc⟩ := He.fn_ok (d := fnD at_ name qual st) (Option.some.inj e2) c2
  exact ⟨_, fun_mk (st := st) lk hc kp⟩
theorem SaysY.tab (c : SaysY bs fn ts w K) (i : Nat) {t : He.Tab} (h : ts[i]? = some t) : ∃ es n, KDict K w (t.1 K) es n := by
  have e : ts.map (fun t => He.dicW K (t.1 K)) = ts.map fun t => some (He.keysIn w.params t.2) := congrArg (fun z : AlY => z.2.2) c
  have e2 : (ts.map fun t => He.dicW K (t.1 K))[i]? = (ts.map fun t => some (He.keysIn w.params t.2))[i]? := by rw [e]
  rw [List.getElem?_map, List.getElem?_map, h] at e2
  exact He.dicW_ok (Option.some.inj e2)
end
/-! what the facts say -/
section
variable {K : PySem.W.Frag} {h : Heap} {mg : Str → Option Value}
abbrev glB (x : Str) : Fb := fun K => (He.Fa.glo x).ok K
abbrev frB (x : Str) : Fb := fun K => (He.Fa.free x).ok K
abbrev inB (x : Str) (i : Int) : Fb := fun K => (He.Fa.int x i).ok K
abbrev stB (x z : Str) : Fb := fun K => (He.Fa.str x z).ok K
theorem gl_mg (X : K.In h) (G : h.Ns mainGlobals mg) {x : Str} (c : glB x K = true) : mg x = some (.ref (He.ga K x)) := He.glo_ok X G c
theorem fr_mg (X : K.In h) (G : h.Ns mainGlobals mg) {x : Str} (c : frB x K = true) : mg x = none := He.free_ok X G c
theorem in_mg (X : K.In h) (G : h.Ns mainGlobals mg) {x : Str} {i : Int} (c : inB x i K = true) : Gc mg x (.int i) := by
  obtain ⟨t, e⟩ := He.int_ok X G c
  exact ⟨_, e, ⟨_, rfl⟩⟩
theorem st_mg (X : K.In h) (G : h.Ns mainGlobals mg) {x z : Str} (c : stB x z K = true) : Gc mg x (.str z) := by
  obtain ⟨t, e⟩ := He.str_ok X G c
  exact ⟨_, e, ⟨_, rfl⟩⟩
/-- a class of the program -/
def klB (x : Str) : Fb := fun K => (He.Fa.cls x).ok K && ((He.Fa.glo x).ok K && (PySem.W.makesIn K (He.ga K x) && PySem.W.keepIn K (.ref (He.ga K x))))
theorem kl_mk (X : K.In h) (G : h.Ns mainGlobals mg) {x : Str} (c : klB x K = true) : Kl K mg x (He.ga K x) := by
  obtain ⟨c1, c⟩ := He.ba c
  obtain ⟨c2, c⟩ := He.ba c
  obtain ⟨c3, c4⟩ := He.ba c
  exact ⟨He.cls_ok c1, He.glo_ok X G c2, c3, c4⟩
def ciB (x : Str) : Fb := fun K => (He.Fa.cls x).ok K && (He.eqO (PySem.W.findIn K (.ref (He.ga K x)) "__class__") (some (some (.builtin "object.__class__"))) && (He.eqO (PySem.W.specialIn K (.builtin "object.__class__") "__get__") (some (some (.builtin "getset_descriptor.__get__"))) &&
  (decide (PySem.W.takesIn K (.builtin "object.__class__") = some true) && decide (PySem.W.mroIn K (He.ga K x) (.type "object") = some true))))
theorem ci_mk {x : Str} (c : ciB x K = true) : ClsI K (He.ga K x) := by
  obtain ⟨c1, c⟩ := He.ba c
  obtain ⟨c2, c⟩ := He.ba c
  obtain ⟨c3, c⟩ := He.ba c
  obtain ⟨c4, c5⟩ := He.ba c
  exact ⟨He.cls_ok c1, He.eqO_ok c2, He.eqO_ok c3, of_decide_eq_true c4, of_decide_eq_true c5⟩
def noB (x f : Str) : Fb := fun K => (He.Fa.noat x f).ok K
theorem no_mk {x f : Str} (c : noB x f K = true) : NoAttr K (He.ga K x) f := He.noat_ok c
def meB (x m : Str) : Fb := fun K => (He.Fa.meth x m).ok K
theorem me_mk {x m : Str} (c : meB x m K = true) : Meth K (He.ga K x) m (He.ma K (He.ga K x) m) := He.meth_ok c
/-- kinds: of two classes; of a class and a built-in type -/
def kqB (x y : Str) (b : Bool) : Fb := fun K => decide (PySem.W.kitOne K (.ref (He.ga K x)) (.ref (He.ga K y)) = some b)
theorem kq_mk {x y : Str} {b : Bool} (c : kqB x y b K = true) : PySem.W.kitOne K (.ref (He.ga K x)) (.ref (He.ga K y)) = some b := of_decide_eq_true c
def ktB (x : Str) (t : String) (b : Bool) : Fb := fun K => decide (PySem.W.kitOne K (.ref (He.ga K x)) (.type t) = some b)
theorem kt_mk {x : Str} {t : String} {b : Bool} (c : ktB x t b K = true) : PySem.W.kitOne K (.ref (He.ga K x)) (.type t) = some b := of_decide_eq_true c
def exB (x y : Str) : Fb := fun K => decide (PySem.W.exmOne K (.ref (He.ga K x)) (.ref (He.ga K y)) = some true)
theorem ex_mk {x y : Str} (c : exB x y K = true) : PySem.W.exmOne K (.ref (He.ga K x)) (.ref (He.ga K y)) = some true := of_decide_eq_true c
/-- the root of the exceptions -/
def rcB (x : Str) : Fb := fun K => (He.Fa.glo x).ok K && (He.eqO (PySem.W.specialIn K (.ref (He.ga K x)) "__getattribute__") (some (some (.builtin "type.__getattribute__"))) && (PySem.W.readsIn K (He.ga K x) (.type "type") &&
  (match PySem.W.findCls K (.ref (He.ga K x)) (.type "type") "__init__" with
    | some (.val v) => decide (v = .builtin "ValueError.__init__")
    | _ => false)))
theorem rc_mk (X : K.In h) (G : h.Ns mainGlobals mg) {x : Str} (c : rcB x K = true) : Rc K mg x (He.ga K x) := by
  obtain ⟨c1, c⟩ := He.ba c
  obtain ⟨c2, c⟩ := He.ba c
  obtain ⟨c3, c4⟩ := He.ba c
  refine ⟨He.glo_ok X G c1, He.eqO_ok c2, c3, ?_⟩
  split at c4
  · rename_i v e
    rw [e, of_decide_eq_true c4]
  · cases c4
/-- an exception class with fields -/
def oexO (C : Addr) : Obj → Bool
  | ⟨.type t, _, .cls ⟨_, _, .ref D :: bm, _, _, hd, _, _, _, _, hl⟩, ⟨[_, _, _, _, some (.builtin n), _]⟩⟩ => decide (t = "type") && (decide (D = C) && (PySem.HandSPX.refsVE bm && (hd && (!hl && decide (n = "ValueError.__new__")))))
  | _ => false
theorem oexO_ok {C : Addr} {o : Obj} (h : oexO C o = true) : ∃ nm q N bs bm sn sub ab col dd k0 k1 k2 k3 k5, o = excClassObj nm q C N bs bm true sn sub ab col dd k0 k1 k2 k3 k5 "ValueError.__new__" ∧ PySem.HandSPX.refsVE bm = true := by
  unfold oexO at h
  split at h
  · rename_i t dd nm bs D bm N q hd sn sub ab col hl k0 k1 k2 k3 n k5
    obtain ⟨h1, h⟩ := He.ba h
    obtain ⟨h2, h⟩ := He.ba h
    obtain ⟨h3, h⟩ := He.ba h
    obtain ⟨h4, h⟩ := He.ba h
    obtain ⟨h5, h6⟩ := He.ba h
    obtain rfl := of_decide_eq_true h1
    obtain rfl := of_decide_eq_true h2
    obtain rfl := of_decide_eq_true h6
    obtain rfl : hl = false := by cases hl <;> first | rfl | cases h5
    subst h4
    exact ⟨_, _, _, _, _, _, _, _, _, _, _, _, _, _, _, rfl, h3⟩
  · cases h
def oxB (x : Str) : Fb := fun K => (match K.lookup (He.ga K x) with
  | some o => oexO (He.ga K x) o
  | none => false) && (He.eqO (PySem.W.findIn K (.ref (He.ga K x)) "__setattr__") (some (some (.builtin "object.__setattr__"))) && (decide (PySem.W.subIn K (.ref (He.ga K x)) (.type "BaseException") = some true) &&
    (decide (PySem.W.typeIn K (.ref (He.ga K x)) = some (.type "type")) && PySem.W.keepIn K (.ref (He.ga K x)))))
theorem ox_mk {x : Str} (c : oxB x K = true) : OexC K (He.ga K x) := by
  obtain ⟨c1, c⟩ := He.ba c
  obtain ⟨c2, c⟩ := He.ba c
  obtain ⟨c3, c⟩ := He.ba c
  obtain ⟨c4, c5⟩ := He.ba c
  refine ⟨?_, He.eqO_ok c2, of_decide_eq_true c3, of_decide_eq_true c4, c5⟩
  cases q : K.lookup (He.ga K x) with
  | none => rw [q] at c1; cases c1
  | some o =>
    rw [q] at c1
    obtain ⟨nm, qn, N, bs, bm, sn, sub, ab, col, dd, k0, k1, k2, k3, k5, rfl, r⟩ := oexO_ok c1
    exact ⟨nm, qn, N, bs, bm, sn, sub, ab, col, dd, k0, k1, k2, k3, k5, rfl, r⟩
def xkB (x : Str) : Fb := fun K => oxB x K && ((He.Fa.glo x).ok K && (He.eqO (PySem.W.findIn K (.ref (He.ga K x)) "__init__") (some (some (.ref (He.ma K (He.ga K x) "__init__")))) && decide (PySem.W.typeIn K (.ref (He.ma K (He.ga K x) "__init__")) = some (.type "function"))))
theorem xk_mk (X : K.In h) (G : h.Ns mainGlobals mg) {x q : Str} {st : Stmt} {ns : List Str} {fd : FuncData} (c : xkB x K = true) (F : Fun K "__init__" q st (He.ma K (He.ga K x) "__init__") fd) (b : Binds K fd ("self" :: ns) []) (no : ∀ n ∈ ns, PySem.W.findIn K (.ref (He.ga K x)) n = some none) : Xk K mg x q (He.ga K x) st ns := by
  obtain ⟨c1, c⟩ := He.ba c
  obtain ⟨c2, c⟩ := He.ba c
  obtain ⟨c3, c4⟩ := He.ba c
  exact ⟨ox_mk c1, He.glo_ok X G c2, ⟨_, _, F, He.eqO_ok c3, of_decide_eq_true c4, b⟩, no⟩
def ecB (x : Str) : Fb := fun K => xfB K (He.ga K x) && (He.eqO (PySem.W.findIn K (.ref (He.ga K x)) "__class__") (some (some (.builtin "object.__class__"))) && (He.eqO (PySem.W.specialIn K (.builtin "object.__class__") "__get__") (some (some (.builtin "getset_descriptor.__get__"))) &&
  (decide (PySem.W.takesIn K (.builtin "object.__class__") = some true) && decide (PySem.W.mroIn K (He.ga K x) (.type "object") = some true))))
theorem xf_mk {x : Str} (c : ecB x K = true) : XfC K (He.ga K x) := xfB_ok (He.ba c).1
theorem ec_mk {x : Str} (c : ecB x K = true) : ExcC K (He.ga K x) := by
  obtain ⟨c1, c⟩ := He.ba c
  obtain ⟨c2, c⟩ := He.ba c
  obtain ⟨c3, c⟩ := He.ba c
  obtain ⟨c4, c5⟩ := He.ba c
  have f := xfB_ok c1
  exact ⟨f.ga, f.gg, f.exC, f.hdC, He.eqO_ok c2, He.eqO_ok c3, of_decide_eq_true c4, of_decide_eq_true c5⟩
/-- the rows of a dict of the module: tuples of texts -/
def kdB (x z : Str) (ws : List Str) : Fb := fun K => (match PySem.W.nsIn K (He.ga K x) z with
  | some (some (.ref q)) => (match K.lookup q with
    | some ⟨.type c, _, .seq its _, _⟩ => decide (c = "tuple") && (decide (its.size ≤ sizeLine) && He.relAll (ws.map V.str) its.toList)
    | _ => false)
  | _ => false)
theorem kd_mk {x z : Str} {ws : List Str} (c : kdB x z ws K = true) : KdRow K (He.ga K x) z ws := by
  unfold kdB at c
  split at c
  · rename_i q e
    split at c
    · rename_i t d its n sl e2
      obtain ⟨c1, c⟩ := He.ba c
      obtain ⟨c2, c3⟩ := He.ba c
      exact ⟨q, _, its, n, e, e2, congrArg Value.type (of_decide_eq_true c1), rfl, of_decide_eq_true c2, He.relAll_ok c3⟩
    · cases c
  · cases c
theorem kdt_mk (X : K.In h) (G : h.Ns mainGlobals mg) {w : World} {x : Str} {rows : List (Str × List Str)} (c : glB x K = true) (d : ∃ es n, KDict K w (He.ga K x) es n) (r : KdRows K (He.ga K x) rows) : Kdt w.params K mg x (He.ga K x) rows := by
  obtain ⟨es, n, kd⟩ := d
  exact { mg := He.glo_ok X G c, of := ⟨es, n, kd.at_, kd.lit⟩, low := kd.low, row := kdt_rows r }
/-- a def, a method -/
theorem tx_mk (X : K.In h) (G : h.Ns mainGlobals mg) {x : Str} {st : Stmt} {ps : List Str} (F : ∃ fd, Fun K x x st (He.fAd K (x, none)) fd) (c : glB x K = true) (b : ∀ fd, Fun K x x st (He.fAd K (x, none)) fd → Binds K fd ps []) : Tx K mg x st ps := by
  obtain ⟨fd, F⟩ := F
  exact ⟨_, fd, F, He.glo_ok X G c, b fd F⟩
theorem tm_mk {x m q : Str} {st : Stmt} {ps : List Str} (F : ∃ fd, Fun K m q st (He.fAd K (x, some m)) fd) (c : meB x m K = true) (b : ∀ fd, Fun K m q st (He.fAd K (x, some m)) fd → Binds K fd ps []) : Tm K (He.ga K x) m q st ps := by
  obtain ⟨fd, F⟩ := F
  exact ⟨_, fd, F, He.meth_ok c, b fd F⟩
end
/-- the run, whatever the row's answer -/
theorem run_by {P : World → Prop} (row : String) (hf : ∀ w : World, P (w.withFollow row false)) (ht : ∀ w : World, P (w.withFollow row true)) (w : World) : P w := PySem.W.byRow2 row hf ht w
end Y

set_option Elab.async false
set_option linter.all false
set_option maxRecDepth 100000
set_option maxHeartbeats 4000000
namespace Y
open PySem PySem.Spec PyProof.Rows L2
/-! d[k] = v; xs.pop(0); sorted(xs) of tuples of whole numbers; list(reversed(xs)) -/
variable {X : Cx} {K : PySem.W.Frag} {a b c e f i o : Expr} {es rest : List Expr} {ta tb tc te tf to ti : TE} {ta2 tb2 tc2 te2 tf2 to2 ti2 : TE2} {pos apos cpos p q tpos : Pos} {tl : TA} {tl2 : TA2} {x : Str}
variable {ρ : Env2} {μ : Mu} {Q : DK} {k j : Nat}
def dDPut (td ty tv : TE2) : TS2 := fun D ρ μ => tv ρ μ fun v μ1 => td ρ μ1 fun x μ2 => ty ρ μ2 fun y μ3 => ∃ a kvs k, x = .adr a ∧ μ3 a = some (.dk kvs) ∧ y = kD k ∧ kvs.length < sizeLine ∧ D.nx ρ (mup μ3 a (.dk (putD kvs k v)))
def dDPutK (v x : D) (N : Mu → Prop) : DK := fun y μ3 => ∃ a kvs k, x = .adr a ∧ μ3 a = some (.dk kvs) ∧ y = kD k ∧ kvs.length < sizeLine ∧ N (mup μ3 a (.dk (putD kvs k v)))
theorem w_dput {n b c : Env2 → Mu → Prop} {r : DK} (h : te2 ρ μ fun v μ1 => to2 ρ μ1 fun x μ2 => ti2 ρ μ2 (dDPutK v x (n ρ))) : dDPut to2 ti2 te2 ⟨n, r, b, c⟩ ρ μ := h
theorem w_dputI {v : D} {N : Mu → Prop} {p : Addr} {kvs : List (Key × D)} {z : Int} (h : μ p = some (.dk kvs)) (l : kvs.length < sizeLine) (q : N (mup μ p (.dk (putD kvs (.inl z) v)))) : dDPutK v (.adr p) N (.int z) μ := ⟨p, kvs, .inl z, rfl, h, rfl, l, q⟩
theorem w_dputS {v : D} {N : Mu → Prop} {p : Addr} {kvs : List (Key × D)} {z : Str} (h : μ p = some (.dk kvs)) (l : kvs.length < sizeLine) (q : N (mup μ p (.dk (putD kvs (.inr z) v)))) : dDPutK v (.adr p) N (.str z) μ := ⟨p, kvs, .inr z, rfl, h, rfl, l, q⟩
theorem s_dput [Jx] (hr : Room k X.A) (hv : PE2 X e te te2) (ho : PE2 X o to to2) (hi : PE2 X i ti ti2) (hs : swapsWith e (some (.Subscript o i apos)) pos.line X.env = pure false := by rfl) : PS2 X (.Assign [.Subscript o i apos] e pos) (sDPut to ti te) (dDPut to2 ti2 te2) where
  ps := ps_dput (hu_of hr) ho.pe hi.pe hv.pe hs
  re := fun D2 ρ μ h I σ H hA hS D g => hv.re ρ μ _ h I σ H hA hS _ fun v μ1 vv I1 H1 h1 A1 k1 r1 => ho.re ρ μ1 _ h1 I1 σ H1 A1 (hS.mono k1.ex) _ fun x μ2 vx I2 H2 h2 A2 k2 r2 => hi.re ρ μ2 _ h2 I2 σ H2 A2 (hS.mono (k1.ex.trans k2.ex)) _ fun y μ3 vy I3 H3 h3 A3 k3 r3 => by
    obtain ⟨p, kvs, kk, rfl, hp, rfl, hl, q⟩ := h3
    have e2 : vx = .ref p := r2
    have e3 : vy = kV kk := rp_kD r3
    subst e2 e3
    obtain ⟨hvs, hH, rk⟩ := at_dk A3 hp
    have rv : Rp X.K I3 v vv := r1.mono (k2.ex.trans k3.ex)
    refine ⟨p, _, rfl, DPut.k hH (by rw [← rpK_length rk]; exact hl), g.nx _ _ _ _ _ q (A3.put hp ⟨_, rfl, rpK_put rk rv⟩) (hS.mono (k1.ex.trans (k2.ex.trans k3.ex))) ((k1.trans (k2.trans k3)).trans (Kp.put hp))⟩
theorem valD_put {kvs : List (Key × D)} {k k' : Key} {v : D} : valD (putD kvs k v) k' = if k = k' then some v else valD kvs k' := by
  have aux : ∀ l : List (Key × D), (l.any fun kv => decide (kv.1 = k)) = true → valD (l.map fun kv => if kv.1 = k then (kv.1, v) else kv) k' = if k = k' then some v else valD l k' := by
    intro l
    induction l with
    | nil => intro h; cases h
    | cons y r ih =>
      intro h
      obtain ⟨k1, v1⟩ := y
      rw [List.map_cons]
      by_cases e : k1 = k
      · subst e
        rw [if_pos rfl]
        show (if k1 = k' then some v else valD _ k') = _
        by_cases e2 : k1 = k'
        · rw [if_pos e2, if_pos e2]
        · rw [if_neg e2, if_neg e2]
          show _ = (if k1 = k' then some v1 else valD r k')
          rw [if_neg e2]
          by_cases hr : (r.any fun kv => decide (kv.1 = k1)) = true
          · rw [ih hr, if_neg e2]
          · have hm : r.map (fun kv => if kv.1 = k1 then (kv.1, v) else kv) = r := by
              rw [List.map_congr_left (g := id), List.map_id]
              intro z hz
              have : ¬ z.1 = k1 := fun e3 => hr (List.any_eq_true.mpr ⟨z, hz, decide_eq_true e3⟩)
              rw [if_neg this]; rfl
            rw [hm]
      · rw [if_neg e]
        have hr : (r.any fun kv => decide (kv.1 = k)) = true := by
          rw [List.any_cons, Bool.or_eq_true] at h
          rcases h with h | h
          · exact absurd (of_decide_eq_true h) e
          · exact h
        show (if k1 = k' then some v1 else valD _ k') = (if k = k' then some v else if k1 = k' then some v1 else valD r k')
        rw [ih hr]
        by_cases e2 : k = k'
        · subst e2; rw [if_pos rfl, if_neg e]; rw [if_pos rfl]
        · rw [if_neg e2, if_neg e2]
  have aux2 : ∀ l : List (Key × D), ¬ (l.any fun kv => decide (kv.1 = k)) = true → valD (l ++ [(k, v)]) k' = if k = k' then some v else valD l k' := by
    intro l
    induction l with
    | nil => intro _; rfl
    | cons y r ih =>
      intro h
      obtain ⟨k1, v1⟩ := y
      rw [List.any_cons, Bool.or_eq_true, not_or] at h
      have e : ¬ k1 = k := fun e => h.1 (decide_eq_true e)
      show (if k1 = k' then some v1 else valD (r ++ [(k, v)]) k') = (if k = k' then some v else if k1 = k' then some v1 else valD r k')
      rw [ih h.2]
      by_cases e2 : k = k'
      · subst e2; rw [if_neg e, if_pos rfl, if_pos rfl]
      · rw [if_neg e2, if_neg e2]
  unfold putD
  split
  · rename_i h; exact aux kvs h
  · rename_i h; exact aux2 kvs h
theorem putD_len {kvs : List (Key × D)} {k : Key} {v : D} : (putD kvs k v).length ≤ kvs.length + 1 := by
  unfold putD
  split
  · rw [List.length_map]; omega
  · rw [List.length_append, List.length_singleton]; omega
/-! pop(0) -/
def dPop0 : DRM := fun x xs μ Q => ∃ p d r, x = .adr p ∧ xs = [.int 0] ∧ μ p = some (.lst (d :: r)) ∧ Q d (mup μ p (.lst r))
theorem w_pop0 {p : Addr} {d : D} {r : List D} (h : μ p = some (.lst (d :: r))) (q : Q d (mup μ p (.lst r))) : dPop0 (.adr p) [.int 0] μ Q := ⟨p, d, r, rfl, rfl, h, q⟩
theorem rm_pop0 [Jx] : RM K rPopAt dPop0 := fun x xs μ Q2 q I H v vs hA rx rs Q k => by
  obtain ⟨p, d, r, rfl, rfl, h, q⟩ := q
  cases (show v = _ from rx)
  obtain ⟨w, e1, e2⟩ := rs.one_inv
  cases (show w = _ from e2)
  subst e1
  obtain ⟨_, ob, ho, us, rfl, hr⟩ := hA.own p _ h
  obtain ⟨u, us, rfl, r1, r2⟩ := hr
  exact ⟨p, u :: us, 0, 0, u, rfl, rfl, ho, by decide, by decide, by unfold seqIndex?; simp, rfl, k _ _ _ _ _ q (hA.put h ⟨_, rfl, r2⟩) (Kp.put h) r1⟩
theorem e_pop0 [Jx] (ho : PE2 X o to to2) (ha : PA2 X [e] tl tl2) (hbase : attributeBase o "pop" X.env (eval o X.env) = eval o X.env := by rfl)
    (hfew : ((backTo cpos (starEach [e] X.env)).all (fun x => !x.1) && (backToKw cpos (keywordEach [] X.env)).all (fun x => x.1.isSome) && decide ([e].length + ([] : List Keyword).length + (if ([] : List Keyword).isEmpty then 0 else 1) < 30)) = true := by rfl)
    (hline : (apos.endLine == cpos.line) = true := by rfl) (hs : starEach [e] X.env = (false, eval e X.env) :: starEach [] X.env := by rfl) : PE2 X (.Call (.Attribute o "pop" apos) [e] [] cpos) (tBM X.K "list" rPopAt to tl) (dBM "list" dPop0 to2 tl2) :=
  e_bm PySem.F.plainAttrs_list PySem.F.slot_list_pop PySem.F.type_list_pop mt_popAt rm_pop0 ho ha hbase hfew hline hs
/-! sorted(xs), its items tuples of whole numbers: stable, by their parts from the left -/
abbrev encI (ns : List Int) : PyData := .tuple (ns.map PyData.int)
abbrev tpD (ns : List Int) : D := .tup (ns.map D.int)
abbrev srtI (L : List (List Int)) : List (List Int) := L.mergeSort (PySem.W.dataLe false encI)
def rSortI3 (K : PySem.W.Frag) : List V → Hp → VK → Prop := fun vs H Q => ∃ (a : Addr) (xs : List V) (L : List (List Int)) (J : Hp), vs = [V.ref a] ∧ SqL K H a xs ∧ Exx J H ∧ PySem.W.EachIs (TupI K J) xs L ∧ (∀ ns ∈ L, ns.length = 3) ∧ L.length ≤ 1000 ∧
  ∀ (ys : List V) (p : Addr), PySem.W.EachIs (TupI K J) ys (srtI L) → H p = none → Q (.ref p) (upd H p (.lst ys))
theorem reads_ints {h : Heap} : ∀ {its : List Value} {ns : List Int}, Vals (ns.map V.int) its → ReadsAll h its (ns.map PyData.int) []
  | [], [], _ => .nil
  | _ :: _, [], r => by cases r
  | [], _ :: _, r => by cases r
  | u :: its, n :: ns, r => by
    cases r with
    | cons r1 r2 =>
      obtain ⟨t, rfl⟩ := r1
      exact ReadsAll.cons (as := []) (bs := []) (.int n t) (reads_ints r2)
theorem reads_tup {pins : List (Addr × Obj)} {σ : L2.St} {H : Hp} {s : Shared} (I : Inv X pins σ H s) {t : Addr} {ns : List Int} (h : SqT X.K H t (ns.map V.int)) : ∃ as, Reads s.heap (.ref t) (encI ns) as := by
  obtain ⟨its, rv, ⟨ob, e1, e2, n, e3⟩, _⟩ := I.tuple h
  exact ⟨_, .tuple e1 e2 e3 (reads_ints rv)⟩
theorem each_vals {K : PySem.W.Frag} {H : Hp} : ∀ {us : List Value} {L : List (List Int)}, PySem.W.EachIs (fun u ns => ∃ t, u = Value.ref t ∧ SqT K H t (ns.map V.int)) us L → ∃ ys : List V, Vals ys us ∧ PySem.W.EachIs (TupI K H) ys L
  | _, _, .nil => ⟨[], .nil, .nil⟩
  | _, _, .cons h t => by
    obtain ⟨t1, rfl, hs⟩ := h
    obtain ⟨ys, v, e⟩ := each_vals t
    exact ⟨.ref t1 :: ys, .cons rfl v, .cons ⟨t1, rfl, hs⟩ e⟩
theorem vals_each {K : PySem.W.Frag} {H : Hp} : ∀ {xs : List V} {us : List Value} {L : List (List Int)}, Vals xs us → PySem.W.EachIs (TupI K H) xs L → PySem.W.EachIs (fun u ns => ∃ t, u = Value.ref t ∧ SqT K H t (ns.map V.int)) us L
  | [], _, _, r, e => by cases r; cases e; exact .nil
  | x :: xs, _, _, r, e => by
    cases r with
    | cons r1 r2 =>
      cases e with
      | cons e1 e2 =>
        obtain ⟨t, rfl, hs⟩ := e1
        exact .cons ⟨t, r1, hs⟩ (vals_each r2 e2)
theorem cr_sortI3 (hu : X.A.units + 64 < cLine) : CallR X (.builtin "sorted") (rSortI3 X.K) := by
  intro pins s σ H vs us Q I r h
  obtain ⟨l, xs, L, J, rfl, hs, hJ, he, h3, hL, q⟩ := h
  obtain ⟨its, rv, hl, hz⟩ := I.list hs
  rw [Vals.ref1 r]
  have ev := vals_each rv he
  have hsz : 1000 ≤ sizeLine := sz_le (by decide)
  refine PySem.W.sorted_data (enc := encI) (bs := L) hl.isList ev (ev.mono fun u ns h => ?_) ?_ ?_ (Nat.le_trans hL hsz) (fun ns _ => ?_) fun out ho eo => ?_
  · obtain ⟨t, rfl, hs⟩ := h
    exact reads_tup I (hJ.sqt hs)
  · intro d hd d' hd'
    obtain ⟨ns, hn, rfl⟩ := List.mem_map.mp hd
    obtain ⟨ms, hm, rfl⟩ := List.mem_map.mp hd'
    have := h3 ns hn
    have := h3 ms hm
    show PySem.W.alikeAll _ _ = true
    exact PySem.W.alike_ints ns ms
  · refine .inl fun d hd => ?_
    obtain ⟨ns, hn, rfl⟩ := List.mem_map.mp hd
    have := h3 ns hn
    cases ns with
    | nil => cases this
    | cons n ns => exact ⟨_, _, rfl⟩
  · have : (encI ns).depth = 1 := by show PyData.depthAll _ + 1 = 1; rw [PySem.W.depth_ints]
    omega
  · obtain ⟨ep, he'⟩ := PyProof.Rows.sortedAll_at s.heap its out.toArray
    obtain ⟨ys, vy, ey⟩ := each_vals eo
    have hlen : ys.length ≤ sizeLine := by
      rw [vy.length, ho]; exact Nat.le_trans hL hsz
    exact ⟨.ref _, upd H (s.heap.objs.size + 1) (.lst ys), I.laid (t' := s.toks) (fun _ _ => PyProof.Rows.sortedAll_old) (Nat.le_succ _) ⟨hlen, out, ep, vy, by simpa using he'⟩, rfl, q _ _ ey (I.hok.fresh (Nat.le_succ _))⟩
def dSortI3 : DRC := fun xs μ Q => ∃ (y : D) (L : List (List Int)), xs = [y] ∧ asL μ y = some (L.map tpD) ∧ (∀ ns ∈ L, ns.length = 3) ∧ L.length ≤ 1000 ∧ ∀ p, μ p = none → Q (.adr p) (mup μ p (.lst ((srtI L).map tpD)))
theorem w_sortI3 {y : D} (L : List (List Int)) (h : asL μ y = some (L.map tpD)) (h3 : ∀ ns ∈ L, ns.length = 3) (hl : L.length ≤ 1000) (q : ∀ p, μ p = none → Q (.adr p) (mup μ p (.lst ((srtI L).map tpD)))) : dSortI3 [y] μ Q := ⟨y, L, rfl, h, h3, hl, q⟩
theorem tup_rp {I : Hp} : ∀ {L : List (List Int)} {vs : List V}, RpA K I (L.map tpD) vs → PySem.W.EachIs (TupI K I) vs L
  | [], _, r => by cases (show _ = _ from r); exact .nil
  | ns :: L, _, r => by
    obtain ⟨v, w, rfl, ⟨t, us, rfl, h1, h2⟩, r2⟩ := r
    rw [RpA.ints_inv h2] at h1
    exact .cons ⟨t, rfl, h1⟩ (tup_rp r2)
theorem rp_tup {I : Hp} : ∀ {L : List (List Int)} {vs : List V}, PySem.W.EachIs (TupI K I) vs L → RpA K I (L.map tpD) vs
  | _, _, .nil => rfl
  | _, _, .cons h t => by
    obtain ⟨t1, rfl, hs⟩ := h
    exact ⟨_, _, rfl, ⟨t1, _, rfl, hs, RpA.ints _⟩, rp_tup t⟩
theorem rc_sortI3 [Jx] : RC K (rSortI3 K) dSortI3 := fun xs μ Q2 q I H vs hA rs Q k => by
  obtain ⟨y, L, rfl, hy, h3, hl, q⟩ := q
  obtain ⟨v, rfl, r1⟩ := rs.one_inv
  obtain ⟨pp, us, rfl, hH, rr⟩ := asL_at hA r1 hy
  refine ⟨pp, us, L, I, rfl, .inl (.inl hH), hA.sub, tup_rp rr, h3, hl, fun ys p he hp => ?_⟩
  exact k _ _ _ _ _ (q p (hA.noM hp)) (hA.got hp ⟨_, rfl, rp_tup he⟩) (Kp.got hp) rfl
theorem e_sortI3 [Jx] (hr : Room k X.A) (hg : Gl X "sorted") (hm : X.mg "sorted" = none) (ha : PA2 X [e] tl tl2) (hv : bootBuiltins "sorted" = some (.builtin "sorted") := by decide +kernel)
    (hs : starEach [e] X.env = (false, eval e X.env) :: starEach [] X.env := by rfl) : PE2 X (.Call (.Name "sorted" p) [e] [] pos) (tCB (rSortI3 X.K) tl) (dCB dSortI3 tl2) :=
  e_cb (cr_sortI3 (by have := hr.un; omega)) rc_sortI3 hg hm hv ha (he := hs)
end Y

set_option Elab.async false
set_option linter.all false
set_option maxRecDepth 100000
set_option maxHeartbeats 4000000
namespace Y
open PySem PySem.Spec PyProof.Rows L2
/-! max of three whole numbers -/
variable {X : Cx} {K : PySem.W.Frag} {a b c : Expr} {pos p : Pos} {tl : TA} {tl2 : TA2} {μ : Mu} {Q : DK}
def dMax3 : DRC := fun xs μ Q => ∃ i j k : Int, xs = [.int i, .int j, .int k] ∧ Q (.int (max (max i j) k)) μ
theorem w_max3 {i j k : Int} (q : Q (.int (max (max i j) k)) μ) : dMax3 [.int i, .int j, .int k] μ Q := ⟨i, j, k, rfl, q⟩
theorem nu_max3 (i j k : Int) : nuMax3 (.int i) (.int j) (.int k) = some (.int (max (max i j) k)) := by
  have h2 : ∀ i j : Int, nuMax2 (.int i) (.int j) = some (.int (max i j)) := fun i j => by
    show some (if decide (i < j) = true then V.int j else V.int i) = _
    by_cases h : i < j
    · rw [if_pos (decide_eq_true h), Int.max_eq_right (by omega)]
    · rw [if_neg (by simpa using h), Int.max_eq_left (by omega)]
  show (nuMax2 (.int i) (.int j)).bind (fun m => nuMax2 m (.int k)) = _
  rw [h2]
  exact h2 _ _
theorem RpA.three_inv {I : Hp} {d d' d'' : D} {vs : List V} (r : RpA K I [d, d', d''] vs) : ∃ v v' v'', vs = [v, v', v''] ∧ Rp K I d v ∧ Rp K I d' v' ∧ Rp K I d'' v'' := by
  obtain ⟨v, r1, rfl, h1, h2⟩ := r
  obtain ⟨v', v'', rfl, h3, h4⟩ := h2.two_inv
  exact ⟨v, v', v'', rfl, h1, h3, h4⟩
theorem e_max3 [Jx] (hg : Gl X "max") (hm : X.mg "max" = none) (ha : PA2 X [a, b, c] tl tl2) (hc : X.calm = true := by rfl) (hv : bootBuiltins "max" = some (.builtin "max") := by decide +kernel) (he : starEach [a, b, c] X.env = (false, eval a X.env) :: starEach [b, c] X.env := by rfl) (hpl : (backTo pos (starEach [b, c] X.env)).any (·.1) = false := by rfl) :
    PE2 X (.Call (.Name "max" p) [a, b, c] [] pos) (tCB (rNuC3 nuMax3) tl) (dCB dMax3 tl2) := e_cb (call_max3Nu hc) (fun xs μ Q2 q I H vs hA r Q k => by
    obtain ⟨i, j, l, rfl, q⟩ := q
    obtain ⟨v, w, u, rfl, e1, e2, e3⟩ := r.three_inv
    cases (show v = _ from e1)
    cases (show w = _ from e2)
    cases (show u = _ from e3)
    exact ⟨_, _, _, _, rfl, nu_max3 i j l, k _ _ _ _ _ q hA Kp.refl rfl⟩) hg hm hv ha (he := he) (hpl := hpl)
instance st_max3 {i j k : Int} : Step (dMax3 [.int i, .int j, .int k] μ Q) (Q (.int (max (max i j) k)) μ) := ⟨fun q => w_max3 q⟩
variable {ρ : Env2} {te2 to2 ti2 : TE2} {n b2 c2 : Env2 → Mu → Prop} {r : DK} {x y v : D} {N : Mu → Prop} {xs : List D}
instance st_dput : Step (dDPut to2 ti2 te2 ⟨n, r, b2, c2⟩ ρ μ) (te2 ρ μ fun v μ1 => to2 ρ μ1 fun x μ2 => ti2 ρ μ2 (dDPutK v x (n ρ))) := ⟨fun q => w_dput q⟩
instance hd_pop0 : HdC (dPop0 x xs μ Q) := ⟨fun h => h⟩
instance hd_dputK : HdC (dDPutK v x N y μ) := ⟨fun h => h⟩
end Y

set_option Elab.async false
set_option linter.all false
set_option maxRecDepth 100000
set_option maxHeartbeats 4000000
namespace Y
open PySem PySem.Spec PyProof.Rows L2
/-! zip of a tuple and a list, of a list and a tuple -/
/-- a row: a tuple, or else a list -/
def SqB (tup : Bool) (K : PySem.W.Frag) (H : Hp) (a : Addr) (xs : List V) : Prop := cond tup (SqT K H a xs) (SqL K H a xs)
def HasB (tup : Bool) (g : Heap) (a : Addr) (its : Array Value) : Prop := cond tup (g.IsTuple a its) (g.IsList a its)
def WalkB (tup : Bool) (g : Heap) (it a : Addr) (i : Nat) : Prop := cond tup (g.IsTupleIter it a i) (g.IsListIter it a i)
theorem sqb_has {tup : Bool} {X : Cx} {pins : List (Addr × Obj)} {σ : L2.St} {H : Hp} {s : Shared} {a : Addr} {xs : List V} (inv : Inv X pins σ H s) (h : SqB tup X.K H a xs) : ∃ its : List Value, Vals xs its ∧ HasB tup s.heap a its.toArray ∧ a < s.heap.objs.size := by
  cases tup with
  | true =>
    obtain ⟨its, r1, r2, _⟩ := inv.tuple h
    obtain ⟨ob, r3, _⟩ := id r2
    exact ⟨its, r1, r2, Heap.lt_size r3⟩
  | false =>
    obtain ⟨its, r1, r2, _⟩ := inv.list h
    exact ⟨its, r1, r2.isList, r2.lt⟩
theorem sqb_one {tup : Bool} {X : Cx} {pins : List (Addr × Obj)} {σ : L2.St} {H : Hp} {s : Shared} {a : Addr} {xs ys : List V} (inv : Inv X pins σ H s) (h : SqB tup X.K H a xs) (g : SqB tup X.K H a ys) : xs = ys := by
  cases tup with
  | true => exact inv.tuple_inj h g
  | false => exact inv.list_inj h g
theorem walkb_obj {tup : Bool} {g : Heap} {it a : Addr} {i : Nat} (h : WalkB tup g it a i) : ∃ o, g.get? it = some o ∧ ∀ v, o.data ≠ .cell v := by
  cases tup <;> (obtain ⟨o, e1, _, e2⟩ := h; exact ⟨o, e1, fun v z => by rw [e2] at z; cases z⟩)
theorem walkb_at {tup : Bool} {g g' : Heap} {it a : Addr} {i : Nat} (h : WalkB tup g it a i) (k : ∀ o, g.get? it = some o → g'.get? it = some o) : WalkB tup g' it a i := by
  cases tup with
  | true => exact Heap.IsTupleIter.at h k
  | false => exact Heap.IsListIter.at h k
/-- what an iterator over it draws -/
theorem drawsB (tup : Bool) {P : Program} {w : World} {A : Around} (hh : A.handled = none) (it a : Addr) (ne : a ≠ it) (its : Array Value) : Draws P w A it [it, a] its.size (fun i v => its[i]? = some v) (fun i g => WalkB tup g it a i ∧ HasB tup g a its) := by
  cases tup with
  | true => exact Draws.tuple hh it a ne its
  | false => exact Draws.list hh it a ne its
/-- .. behind its end -/
theorem drawsEnd (tup : Bool) {P : Program} {w : World} {A : Around} (hh : A.handled = none) (it a : Addr) (its : Array Value) (i : Nat) (le : its.size ≤ i) : Draws P w A it [it, a] i (fun _ _ => False) (fun j g => j = i ∧ WalkB tup g it a i ∧ HasB tup g a its) where
  live := fun _ _ st => let ⟨o, e, _⟩ := walkb_obj st.2.1; ⟨o, e⟩
  frame := fun _ _ _ st k => ⟨st.1, walkb_at st.2.1 fun o e => k it (by simp) o e, by
    have h := st.2.2
    cases tup with
    | true => exact Heap.IsTuple.at h fun o e => k a (by simp) o e
    | false => exact Heap.IsList.at h fun o e => k a (by simp) o e⟩
  item := fun j s Q E lt st _ => absurd st.1 (Nat.ne_of_lt lt)
  done := fun s Q E st hE => by
    have h1 := st.2.1
    have h2 := st.2.2
    cases tup with
    | true => exact wpAny_nextOf_tuple_end hh h1 h2 (Array.getElem?_eq_none le) hE
    | false => exact wpAny_nextOf_list_end hh h1 h2 (Array.getElem?_eq_none le) hE
def ItzB (t1 t2 : Bool) (K : PySem.W.Frag) (a b : Addr) : It :=
  ⟨fun i H => ∃ (xs ys : List V) (x y : V), SqB t1 K H a xs ∧ SqB t2 K H b ys ∧ xs[i]? = some x ∧ ys[i]? = some y,
    fun i H v H' => ∃ T x y, v = .ref T ∧ H T = none ∧ H' = upd H T (.tup [x, y]) ∧ (∀ xs, SqB t1 K H a xs → xs[i]? = some x) ∧ ∀ ys, SqB t2 K H b ys → ys[i]? = some y,
    fun i H => ∃ xs ys : List V, SqB t1 K H a xs ∧ SqB t2 K H b ys ∧ (xs.length ≤ i ∨ ys.length ≤ i)⟩
theorem sepB {z TI TO i1 i2 a b : Addr} (D : ZipApart z TI TO i1 i2 a b) (ab1 : a ≠ i2) (ab2 : b ≠ i1) : ZipSep2 z TI TO i1 i2 [i1, a] [i2, b] where
  TIz := D.TIz
  TOz := D.TOz
  TITO := D.TITO
  TIi1 := D.TIi1
  mem1 := List.mem_cons_self
  zf1 := by simp only [List.mem_cons, List.not_mem_nil, or_false, not_or]; exact ⟨D.i1z.symm, D.l1z.symm⟩
  Tf1 := by simp only [List.mem_cons, List.not_mem_nil, or_false, not_or]; exact ⟨D.TOi1, D.l1TO.symm⟩
  TIi2 := D.TIi2
  mem2 := List.mem_cons_self
  zf2 := by simp only [List.mem_cons, List.not_mem_nil, or_false, not_or]; exact ⟨D.i2z.symm, D.l2z.symm⟩
  Tf2 := by simp only [List.mem_cons, List.not_mem_nil, or_false, not_or]; exact ⟨D.TOi2, D.l2TO.symm⟩
  sep1_2 := by simp only [List.mem_cons, List.not_mem_nil, or_false, not_or]; exact ⟨D.i12, ab2.symm⟩
  sep2_1 := by simp only [List.mem_cons, List.not_mem_nil, or_false, not_or]; exact ⟨D.i12.symm, ab1.symm⟩
abbrev fpB (z TI TO i1 i2 : Addr) : List Addr := [z, TI, TO, i1, i2]
theorem turnB {P : Program} {w : World} {K : PySem.W.Frag} {elts : List Expr} {kk : Nat} {tp : Pos} {a b z TI TO i1 i2 : Addr} (t1 t2 : Bool) (D : ZipApart z TI TO i1 i2 a b) :
    Turn P w K (.Tuple elts kk tp) (ItzB t1 t2 K a b) (fpB z TI TO i1 i2) z (fun i g => IsZip g z TI TO .none ∧ IsTupOf2 g TI (.ref i1) (.ref i2) ∧ (∃ p q, IsTupOf2 g TO p q) ∧ WalkB t1 g i1 a i ∧ WalkB t2 g i2 b i) where
  mem := by simp
  obj := fun i g ⟨w1, w2, ⟨p, q, w3⟩, w4, w5⟩ c hc => by
    have hc2 : c = z ∨ c = TI ∨ c = TO ∨ c = i1 ∨ c = i2 := by simpa using hc
    rcases hc2 with e | e | e | e | e <;> rw [e]
    · exact ⟨_, w1, fun _ => nofun⟩
    · exact ⟨_, w2, fun _ => nofun⟩
    · exact ⟨_, w3, fun _ => nofun⟩
    · exact walkb_obj w4
    · exact walkb_obj w5
  keep := fun i g g' ⟨w1, w2, ⟨p, q, w3⟩, w4, w5⟩ k =>
    ⟨k z (by simp) _ w1, k TI (by simp) _ w2, ⟨p, q, k TO (by simp) _ w3⟩, walkb_at w4 (k i1 (by simp)), walkb_at w5 (k i2 (by simp))⟩
  item := by
    intro X eP ew eK calm i pins s σ H E inv hf tn hg
    subst eP ew eK
    obtain ⟨w1, w2, ⟨p, q, w3⟩, w4, w5⟩ := tn
    obtain ⟨xs, ys, x, y, s1, s2, gx, gy⟩ := hg
    obtain ⟨its, r1, l1, _⟩ := sqb_has inv s1
    obtain ⟨jts, r2, l2, _⟩ := sqb_has inv s2
    have zlt : z < s.heap.objs.size := Heap.lt_size w1
    have b1 : i < its.toArray.size := by have := (List.getElem?_eq_some_iff.mp gx).1; have := r1.length; simp only [List.size_toArray]; omega
    have b2 : i < jts.toArray.size := by have := (List.getElem?_eq_some_iff.mp gy).1; have := r2.length; simp only [List.size_toArray]; omega
    have hh : X.A.in1.handled = none := inv.ok.hd calm
    refine wpAny_pyNext_zipD2_item (sepB D D.l1i2 D.l2i1) (drawsB t1 hh i1 a D.l1i1 its.toArray) (drawsB t2 hh i2 b D.l2i2 jts.toArray) w1 w2 w3 ⟨w4, l1⟩ ⟨w5, l2⟩ b1 b2 fun u v g tk e1 e2 z1 z2 z3 z4 z5 z6 z7 => ?_
    refine ⟨_, rfl, wpAny_letOwnedTupleGo_zip (s := { s with heap := g, toks := tk }) z1 fun g2 z8 sb => ?_⟩
    have z9 : g2.get? s.heap.objs.size = some { cls := .type "tuple", data := .seq #[u, v] } := (sb.2 _ (Nat.ne_of_gt zlt)).trans z5
    obtain ⟨u', hu, ru⟩ := r1.get gx
    obtain ⟨v', hv, rv⟩ := r2.get gy
    have eu : u' = u := by rw [List.getElem?_toArray] at e1; exact Option.some.inj (hu.symm.trans e1)
    have ev : v' = v := by rw [List.getElem?_toArray] at e2; exact Option.some.inj (hv.symm.trans e2)
    subst eu ev
    have fresh : ObjOk X.prog X.w (upd H s.heap.objs.size (.tup [x, y])) g2 s.heap.objs.size (.tup [x, y]) := ⟨sz_le (by show 2 ≤ 10000000; decide), [u', v'], .cons ru (.cons rv .nil), ⟨_, z9, rfl, _, rfl⟩⟩
    have kk : ∀ c o, c ∉ fpB z TI TO i1 i2 → s.heap.get? c = some o → g2.get? c = some o := fun c o hc e => by
      simp only [List.mem_cons, List.not_mem_nil, or_false, not_or] at hc
      exact (sb.2 c hc.1).trans (z7 c o hc.1 hc.2.2.1 hc.2.2.2.1 hc.2.2.2.2 e)
    refine ⟨.ref s.heap.objs.size, _, Inv.turnedNew (s := s) (t' := tk) inv kk hf (Nat.le_refl _) fresh, rfl, ⟨_, x, y, rfl, inv.hok.fresh (Nat.le_refl _), rfl, fun l hl => by rw [sqb_one inv hl s1]; exact gx, fun l hl => by rw [sqb_one inv hl s2]; exact gy⟩, ⟨z8, ?_, ⟨u', v', ?_⟩, ?_, ?_⟩, fun c hc => ?_⟩
    · exact (sb.2 _ D.TIz).trans (z7 _ _ D.TIz D.TITO D.TIi1 D.TIi2 w2)
    · exact (sb.2 _ D.TOz).trans z2
    · exact walkb_at z3.1 fun o e => (sb.2 _ D.i1z).trans e
    · exact walkb_at z4.1 fun o e => (sb.2 _ D.i2z).trans e
    · have hc2 : c = z ∨ c = TI ∨ c = TO ∨ c = i1 ∨ c = i2 := by simpa using hc
      have clt : c < s.heap.objs.size := by
        rcases hc2 with e | e | e | e | e <;> rw [e]
        · exact zlt
        · exact Heap.lt_size w2
        · exact Heap.lt_size w3
        · obtain ⟨o, e, _⟩ := walkb_obj w4; exact Heap.lt_size e
        · obtain ⟨o, e, _⟩ := walkb_obj w5; exact Heap.lt_size e
      rw [upd_ne (Nat.ne_of_lt clt)]; exact (hf c hc).1
  done := by
    intro X eP ew eK calm i pins s σ H E inv hf tn hg
    subst eP ew eK
    obtain ⟨w1, w2, ⟨p, q, w3⟩, w4, w5⟩ := tn
    obtain ⟨xs, ys, s1, s2, n3⟩ := hg
    obtain ⟨its, r1, l1, _⟩ := sqb_has inv s1
    obtain ⟨jts, r2, l2, _⟩ := sqb_has inv s2
    have q1 : its.toArray.size = xs.length := by rw [List.size_toArray]; exact r1.length.symm
    have q2 : jts.toArray.size = ys.length := by rw [List.size_toArray]; exact r2.length.symm
    have hh : X.A.in1.handled = none := inv.ok.hd calm
    have fin : ∀ (g : Heap) (tk : Nat), (∀ c o, c ≠ z → c ≠ TO → c ≠ i1 → c ≠ i2 → s.heap.get? c = some o → g.get? c = some o) → (none : Option Value) = none ∧ Inv X pins σ H { s with heap := g, toks := tk } := fun g tk k => ⟨rfl, Inv.turnedL (s := s) (t' := tk) (ch := fpB z TI TO i1 i2) inv (fun c o hc e => by
      simp only [List.mem_cons, List.not_mem_nil, or_false, not_or] at hc
      exact k c o hc.1 hc.2.2.1 hc.2.2.2.1 hc.2.2.2.2 e) hf⟩
    by_cases c1 : its.toArray.size ≤ i
    · by_cases c2 : jts.toArray.size ≤ i
      · exact wpAny_pyNext_zipD2_end (sepB D D.l1i2 D.l2i1) (drawsEnd t1 hh i1 a its.toArray i c1) (drawsEnd t2 hh i2 b jts.toArray i c2) w1 w2 w3 ⟨rfl, w4, l1⟩ ⟨rfl, w5, l2⟩ (Nat.le_refl _) (Nat.le_refl _) (.inl rfl) fin
      · exact wpAny_pyNext_zipD2_end (sepB D D.l1i2 D.l2i1) (drawsEnd t1 hh i1 a its.toArray i c1) (drawsB t2 hh i2 b D.l2i2 jts.toArray) w1 w2 w3 ⟨rfl, w4, l1⟩ ⟨w5, l2⟩ (Nat.le_refl _) (by omega) (.inl rfl) fin
    · exact wpAny_pyNext_zipD2_end (sepB D D.l1i2 D.l2i1) (drawsB t1 hh i1 a D.l1i1 its.toArray) (drawsEnd t2 hh i2 b jts.toArray i (by omega)) w1 w2 w3 ⟨w4, l1⟩ ⟨rfl, w5, l2⟩ (by omega) (Nat.le_refl _) (.inr rfl) fin
  self := fun A i s Q E tn h => wpAny_pyIter_zip tn.1 h
def begB (tup : Bool) (a : Addr) : Obj := { cls := .type (cond tup "tuple_iterator" "list_iterator"), data := .fields #[.ref a, .int 0 0] }
theorem beginsB (tup : Bool) (a : Addr) (its : Array Value) : Begins (.ref a) (begB tup a) fun g => HasB tup g a its := by
  cases tup with
  | true => exact begins_tuple a its
  | false => exact begins_list a its
theorem begB_walk {tup : Bool} {g : Heap} {it a : Addr} (h : g.get? it = some (begB tup a)) : WalkB tup g it a 0 := by
  cases tup <;> exact ⟨_, h, rfl, rfl⟩
def iZipB (t1 t2 : Bool) (K : PySem.W.Frag) (ta : TA) : TI := fun σ H R => ta σ H fun vs H1 => ∃ a b xs ys, vs = [.ref a, .ref b] ∧ SqB t1 K H1 a xs ∧ SqB t2 K H1 b ys ∧ R (ItzB t1 t2 K a b) H1
theorem pi_zipB {X : Cx} {e e2 : Expr} {ta : TA} {p pos tp : Pos} {elts : List Expr} {kk : Nat} (t1 t2 : Bool) (hg : Gl X "zip") (hm : X.mg "zip" = none) (ha : PA X [e, e2] ta)
    (hs : starEach [e, e2] X.env = (false, eval e X.env) :: starEach [e2] X.env := by rfl) (hpl : (backTo pos (starEach [e2] X.env)).any (·.1) = false := by rfl) : PI X (.Tuple elts kk tp) (.Call (.Name "zip" p) [e, e2] [] pos) (iZipB t1 t2 X.K ta) := by
  refine ⟨fun pins s σ H R inv h => Call_ (ld_blt inv hg hm PyProof.Rows.boot_zip (PyProof.Rows.callWith_type1 (thn (ha.run pos pins s σ H _ inv h) fun us s1 ⟨vs, H1, I1, rs, a, b, xs, ys, ev, s2, s3, q⟩ => ?_) hs hpl))⟩
  subst ev
  obtain ⟨u, v, rfl, ru, rv⟩ := vals2 rs
  cases ru; cases rv
  obtain ⟨its, r1, l1, alt⟩ := sqb_has I1 s2
  obtain ⟨jts, r2, l2, blt⟩ := sqb_has I1 s3
  refine zip_begins2 (beginsB t1 a its.toArray) (beginsB t2 b jts.toArray) l1 l2 fun g z1 z2 z3 z4 z5 z6 z7 => wpAny_pyIter_zip z1 ?_
  have I2 : Inv X pins σ H1 { s1 with heap := g } := I1.kept (t' := s1.toks) z7
  refine ⟨s1.heap.objs.size + 4, fpB (s1.heap.objs.size + 4) (s1.heap.objs.size + 2) (s1.heap.objs.size + 3) s1.heap.objs.size (s1.heap.objs.size + 1), _, _, H1, rfl, I2, turnB t1 t2 (PySem.W.ktu_apart s1.heap.objs.size a b alt blt), ⟨z1, z2, ⟨_, _, z3⟩, begB_walk z4, begB_walk z5⟩, fun c hc => ?_, q⟩
  have hc2 : c = s1.heap.objs.size + 4 ∨ c = s1.heap.objs.size + 2 ∨ c = s1.heap.objs.size + 3 ∨ c = s1.heap.objs.size ∨ c = s1.heap.objs.size + 1 := by simpa using hc
  have cle : s1.heap.objs.size ≤ c := by
    rcases hc2 with e | e | e | e | e <;> rw [e]
    · exact Nat.le_add_right _ _
    · exact Nat.le_add_right _ _
    · exact Nat.le_add_right _ _
    · exact Nat.le_refl _
    · exact Nat.le_add_right _ _
  exact I1.fpOk cle (I1.hok.fresh cle)
/-! over data -/
variable {X : Cx} {K : PySem.W.Frag} {a b e : Expr} {tl : TA} {tl2 : TA2} {pos p tpos : Pos} {ρ : Env2} {μ : Mu}
theorem sqb_up {tup : Bool} {I H : Hp} {p : Addr} {vs : List V} (e : Exx I H) (h : SqB tup K I p vs) : SqB tup K H p vs := by
  cases tup with
  | true => exact e.sqt h
  | false => exact e.sql h
/-- of a tuple that stays and of a list -/
theorem itd_TL [Jx] {I : Hp} {p q : Addr} {ds es : List D} {vs : List V} {y : D} (h1 : SqT K I p vs) (h2 : RpA K I ds vs) (r : Rp K I y (.ref q)) : ItD K (ItzB true false K p q) (prsD ds es) (Still y es) I := fun i I' μ' H' e a g => by
  have h1 := (show Exx I' H' from a.sub).sqt (e.sqt h1)
  have h2 := h2.mono e
  obtain ⟨q', ws, eq, h3, h4⟩ := asL_at a (r.mono e) g
  cases eq
  have h3 : SqB false K H' q ws := .inl (.inl h3)
  rw [prsD_len]
  refine ⟨fun hi => ?_, fun hi => ⟨vs, ws, h1, h3, by rw [h2.length, h4.length]; omega⟩⟩
  have hi1 : i < ds.length := by omega
  have hi2 : i < es.length := by omega
  obtain ⟨v, g1, g2⟩ := h2.get (List.getElem?_eq_getElem hi1)
  obtain ⟨w, g3, g4⟩ := h4.get (List.getElem?_eq_getElem hi2)
  refine ⟨⟨vs, ws, v, w, h1, h3, g1, g3⟩, fun u H2 yl => ?_⟩
  obtain ⟨T, a1, a2, rfl, hT, rfl, y1, y2⟩ := yl
  have e1 := y1 vs h1
  rw [g1] at e1; cases e1
  have e2 := y2 ws h3
  rw [g3] at e2; cases e2
  obtain ⟨I2, b1, b2, b3⟩ := pair_new a hT g2 g4
  exact ⟨_, I2, prsD_get (List.getElem?_eq_getElem hi1) (List.getElem?_eq_getElem hi2), b1, b2, b3⟩
/-- of a list and of a tuple that stays -/
theorem itd_LT [Jx] {I : Hp} {p q : Addr} {ds es : List D} {ws : List V} {x : D} (r : Rp K I x (.ref p)) (h3 : SqT K I q ws) (h4 : RpA K I es ws) : ItD K (ItzB false true K p q) (prsD ds es) (Still x ds) I := fun i I' μ' H' e a g => by
  have h3 := (show Exx I' H' from a.sub).sqt (e.sqt h3)
  have h4 := h4.mono e
  obtain ⟨p', vs, ep, h1, h2⟩ := asL_at a (r.mono e) g
  cases ep
  have h1 : SqB false K H' p vs := .inl (.inl h1)
  rw [prsD_len]
  refine ⟨fun hi => ?_, fun hi => ⟨vs, ws, h1, h3, by rw [h2.length, h4.length]; omega⟩⟩
  have hi1 : i < ds.length := by omega
  have hi2 : i < es.length := by omega
  obtain ⟨v, g1, g2⟩ := h2.get (List.getElem?_eq_getElem hi1)
  obtain ⟨w, g3, g4⟩ := h4.get (List.getElem?_eq_getElem hi2)
  refine ⟨⟨vs, ws, v, w, h1, h3, g1, g3⟩, fun u H2 yl => ?_⟩
  obtain ⟨T, a1, a2, rfl, hT, rfl, y1, y2⟩ := yl
  have e1 := y1 vs h1
  rw [g1] at e1; cases e1
  have e2 := y2 ws h3
  rw [g3] at e2; cases e2
  obtain ⟨I2, b1, b2, b3⟩ := pair_new a hT g2 g4
  exact ⟨_, I2, prsD_get (List.getElem?_eq_getElem hi1) (List.getElem?_eq_getElem hi2), b1, b2, b3⟩
abbrev JR : Type := List D → (Mu → Prop) → Mu → Prop
def jZTLK (R : JR) : List D → Mu → Prop := fun xs μ1 => ∃ ds y es, xs = [.tup ds, y] ∧ asL μ1 y = some es ∧ R (prsD ds es) (Still y es) μ1
def jZTL (ta : TA2) : TI2 := fun ρ μ R => ta ρ μ (jZTLK R)
def jZLTK (R : JR) : List D → Mu → Prop := fun xs μ1 => ∃ x ds es, xs = [x, .tup es] ∧ asL μ1 x = some ds ∧ R (prsD ds es) (Still x ds) μ1
def jZLT (ta : TA2) : TI2 := fun ρ μ R => ta ρ μ (jZLTK R)
theorem w_jZTL {R : JR} (h : tl2 ρ μ (jZTLK R)) : jZTL tl2 ρ μ R := h
theorem w_jZLT {R : JR} (h : tl2 ρ μ (jZLTK R)) : jZLT tl2 ρ μ R := h
theorem w_jZTLK {R : JR} {ds es : List D} {y : D} (h : asL μ y = some es) (q : R (prsD ds es) (Still y es) μ) : jZTLK R [.tup ds, y] μ := ⟨ds, y, es, rfl, h, q⟩
theorem w_jZLTK {R : JR} {ds es : List D} {x : D} (h : asL μ x = some ds) (q : R (prsD ds es) (Still x ds) μ) : jZLTK R [x, .tup es] μ := ⟨x, ds, es, rfl, h, q⟩
theorem j_zTL [Jx] {elts : List Expr} {kk : Nat} (hg : Gl X "zip") (hm : X.mg "zip" = none) (ha : PA2 X [a, b] tl tl2) (hs : starEach [a, b] X.env = (false, eval a X.env) :: starEach [b] X.env := by rfl) (hpl : (backTo pos (starEach [b] X.env)).any (·.1) = false := by rfl) :
    PI2 X (.Tuple elts kk tpos) (.Call (.Name "zip" p) [a, b] [] pos) (iZipB true false X.K tl) (jZTL tl2) :=
  ⟨pi_zipB true false hg hm ha.pa hs hpl, fun ρ μ R2 q I σ H hA hS R k => ha.re ρ μ _ q I σ H hA hS _ fun xs μ1 vs I1 H1 q1 a1 k1 r1 => by
    obtain ⟨ds, y, es, rfl, h2, q1⟩ := q1
    obtain ⟨v, w, rfl, e1, e2⟩ := r1.two_inv
    obtain ⟨p1, us, rfl, g1, g2⟩ := e1
    obtain ⟨p2, ws, rfl, g3, g4⟩ := asL_at a1 e2 h2
    exact ⟨p1, p2, us, ws, rfl, (show Exx I1 H1 from a1.sub).sqt g1, .inl (.inl g3), k _ _ _ _ _ _ q1 a1 k1 (itd_TL g1 g2 e2)⟩⟩
theorem j_zLT [Jx] {elts : List Expr} {kk : Nat} (hg : Gl X "zip") (hm : X.mg "zip" = none) (ha : PA2 X [a, b] tl tl2) (hs : starEach [a, b] X.env = (false, eval a X.env) :: starEach [b] X.env := by rfl) (hpl : (backTo pos (starEach [b] X.env)).any (·.1) = false := by rfl) :
    PI2 X (.Tuple elts kk tpos) (.Call (.Name "zip" p) [a, b] [] pos) (iZipB false true X.K tl) (jZLT tl2) :=
  ⟨pi_zipB false true hg hm ha.pa hs hpl, fun ρ μ R2 q I σ H hA hS R k => ha.re ρ μ _ q I σ H hA hS _ fun xs μ1 vs I1 H1 q1 a1 k1 r1 => by
    obtain ⟨x, ds, es, rfl, h1, q1⟩ := q1
    obtain ⟨v, w, rfl, e1, e2⟩ := r1.two_inv
    obtain ⟨p1, us, rfl, g1, g2⟩ := asL_at a1 e1 h1
    obtain ⟨p2, ws, rfl, g3, g4⟩ := e2
    exact ⟨p1, p2, us, ws, rfl, .inl (.inl g1), (show Exx I1 H1 from a1.sub).sqt g3, k _ _ _ _ _ _ q1 a1 k1 (itd_LT e1 g3 g4)⟩⟩
instance st_jZTL {R : JR} : Step (jZTL tl2 ρ μ R) (tl2 ρ μ (jZTLK R)) := ⟨fun q => q⟩
instance st_jZLT {R : JR} : Step (jZLT tl2 ρ μ R) (tl2 ρ μ (jZLTK R)) := ⟨fun q => q⟩
variable {R : JR} {xs : List D}
instance hd_jZTLK : HdB (jZTLK R xs μ) := ⟨fun h => h⟩
instance hd_jZLTK : HdB (jZLTK R xs μ) := ⟨fun h => h⟩
theorem prs_map {α : Type} (f g : α → D) : ∀ l : List α, prsD (l.map f) (l.map g) = l.map fun x => D.tup [f x, g x]
  | [] => rfl
  | x :: l => by show D.tup [f x, g x] :: prsD (l.map f) (l.map g) = _; rw [prs_map f g l]; rfl
theorem prs_zip {α β : Type} (f : α → D) (g : β → D) : ∀ (l : List α) (m : List β), prsD (l.map f) (m.map g) = (l.zip m).map fun p => D.tup [f p.1, g p.2]
  | [], _ => rfl
  | _ :: _, [] => rfl
  | x :: l, y :: m => by show D.tup [f x, g y] :: prsD (l.map f) (m.map g) = _; rw [prs_zip f g l m]; rfl
end Y

set_option Elab.async false
set_option linter.all false
set_option maxRecDepth 100000
set_option maxHeartbeats 4000000
namespace Y
open PySem PySem.Spec PyProof.Rows L2
open Sem (wp)
/-! list(reversed(xs)) -/
section
variable {P : Program} {w : World} {B : Around} {Er : Value → Shared → Prop} {t : Shared} {r l N : Addr} {its : Array Value}
abbrev LstAt (g : Heap) (N : Addr) (c : Nat) (acc : Array Value) : Prop := g.get? N = some { cls := .type "list", dict := none, data := .seq acc c, slots := #[] }
abbrev RevIts (its acc : Array Value) : Prop := ItemsOf (fun i v => its[its.size - 1 - i]? = some v) acc its.size
theorem ext_rev {R : Result → Shared → Prop} {res : Value} {k : Nat} (calm : B.handled = none) (hr : t.heap.IsRevIter r l ((its.size : Int) - 1)) (hl : t.heap.IsList l its) (lr : l ≠ r) (hN : LstAt t.heap N k #[]) (Nr : N ≠ r) (Nl : N ≠ l) (sz : its.size ≤ sizeLine)
    (fin : ∀ (g : Heap) (tk : Nat) (acc : Array Value) (k' : Nat), (∀ b o, b ≠ N → b ≠ r → t.heap.get? b = some o → g.get? b = some o) → LstAt g N k' acc → RevIts its acc → R (.ok (.ret res)) { t with heap := g, toks := tk }) :
    wpAny (model P w) B.in1 (Builtin.List.listExtendWith (.ref N) (.ref r) res)
      (fun e t' => match e with | .done f => R (.ok f) t' | .again c => c.quiet = true ∧ codeAny (model P w) B c R t') (fun e t' => R (.error e) t') t := by
  have ws := (Walks.listRev (prog := P) (w := w) (A := B.in1) calm r l lr its).toS
  have out : N ∉ [r, l] := by simp only [List.mem_cons, List.not_mem_nil, or_false, not_or]; exact ⟨Nr, Nl⟩
  have ty : t.TypeIs (.ref r) "list_reverseiterator" := Heap.IsRevIter.typeIs hr
  have df : Builtin.List.listSameRef (.ref N) (.ref r) = false := by simp [Builtin.List.listSameRef, Nr]
  unfold Builtin.List.listExtendWith
  refine wpAny_bind (wpAny_typeOf ty ?_)
  rw [if_neg (by rw [df]; decide)]
  refine wpAny_bind (wpAny_pyIter_revIter hr ?_)
  refine wpAny_bind (wpAny_holding ?_)
  unfold Builtin.List.listLengthHint
  refine wpAny_bind (wpAny_specialOf ty RT.nolen_lri ?_)
  show wpAny _ B.in1 (specialOf (Value.ref r) (Str.ofString "__length_hint__") >>= _) _ _ _
  refine wpAny_bind (wpAny_specialOf ty RT.hint_lri ?_)
  generalize nm : ("list_reverseiterator.__length_hint__" : String) = nm0
  wp_delta
  rw [show splitId nm0 = some ("list_reverseiterator", "__length_hint__") from by subst nm; decide +kernel]
  subst nm
  refine wpAny_bind (wpAny_isInstance (b := true) ty (by rw [isSubtype_type]; kernel_rfl) ?_)
  refine wpAny_pure ?_
  rw [if_neg (by decide)]
  have z : ((its.size : Nat) : Int) - 1 - ((0 : Nat) : Int) = (its.size : Int) - 1 := by omega
  refine wpAny_pure ⟨plainId_quiet F.plain_extend_loop _, codeAny_extend_loopS ws sz _ out _ its.size 0 _ _ _ rfl (Nat.zero_le _) ⟨Nat.zero_le _, by rw [z]; exact hr, hl⟩ hN (ItemsOf.nil _) fun t' acc k' mv hN' it => ?_⟩
  rw [Moved.eq_with mv]
  refine fin t'.heap t'.toks acc k' (fun b o nN nr e => mv.heap b o (fun m => ?_) e) hN' it
  rcases List.mem_cons.mp m with e' | m
  · exact nN e'
  · exact nr (List.mem_singleton.mp m)
theorem init_rev {R : Result → Shared → Prop} (calm : B.handled = none) (hr : t.heap.IsRevIter r l ((its.size : Int) - 1)) (hl : t.heap.IsList l its) (lr : l ≠ r) (hN : t.heap.get? N = some { cls := .type "list", data := .seq #[] }) (Nr : N ≠ r) (Nl : N ≠ l) (sz : its.size ≤ sizeLine)
    (fin : ∀ (g : Heap) (tk : Nat) (acc : Array Value) (k' : Nat), (∀ b o, b ≠ N → b ≠ r → t.heap.get? b = some o → g.get? b = some o) → LstAt g N k' acc → RevIts its acc → R (.ok (.ret .none)) { t with heap := g, toks := tk }) :
    wpAny (model P w) B.in1 (Builtin.«list.__init__» ⟨[.ref N, .ref r], []⟩)
      (fun e t' => match e with | .done f => R (.ok f) t' | .again c => c.quiet = true ∧ codeAny (model P w) B c R t') (fun e t' => R (.error e) t') t := by
  show wpAny _ _ (do let a ← Builtin.List.listItems (.ref N); Builtin.List.listUpdate (.ref N) (fun _ => #[]); letGo a.toList.reverse; Builtin.List.listExtendWith (.ref N) (.ref r) .none) _ _ t
  refine wpAny_bind ?_
  unfold Builtin.List.listItems
  refine wpAny_bind (wpAny_seqItems hN rfl (wpAny_pure ?_))
  show wpAny _ _ (updateSeq N (fun _ => #[]) >>= fun _ => letGo (#[] : Array Value).toList.reverse >>= fun _ => Builtin.List.listExtendWith (.ref N) (.ref r) .none) _ _ t
  refine wpAny_bind (wpAny_updateSeq hN rfl ?_)
  have hN2 := Heap.get?_update_self (Obj.mapSeq (fun _ => (#[] : Array Value))) hN rfl
  have other : ∀ b o, b ≠ N → t.heap.get? b = some o → (t.heap.update N (Obj.mapSeq (fun _ => (#[] : Array Value)))).get? b = some o := fun b o n e => (Heap.get?_update_other _ _ (Ne.symm n)).trans e
  refine wpAny_bind (wpAny_letGo ?_)
  exact ext_rev calm (hr.at fun o e => other _ _ (Ne.symm Nr) e) (hl.at fun o e => other _ _ (Ne.symm Nl) e) lr hN2 Nr Nl sz fun g tk acc k' kp h1 h2 => fin g tk acc k' (fun b o nN nr e => kp b o nN nr (other b o nN e)) h1 h2
theorem call_listRev {Q : Value → Shared → Prop} (calm : B.handled = none) (hr : t.heap.IsRevIter r l ((its.size : Int) - 1)) (hl : t.heap.IsList l its) (lr : l ≠ r) (sz : its.size ≤ sizeLine)
    (fin : ∀ (g : Heap) (tk : Nat) (acc : Array Value) (k' : Nat), (∀ b o, b ≠ r → t.heap.get? b = some o → g.get? b = some o) → LstAt g t.heap.objs.size k' acc → RevIts its acc → Q (.ref t.heap.objs.size) { t with heap := g, toks := tk }) :
    wpAny (model P w) B (call (.type "list") [.ref r]) Q Er t := by
  obtain ⟨oi, ei, _⟩ := id hr
  obtain ⟨ol, el, _⟩ := id hl
  have Nr : t.heap.objs.size ≠ r := Nat.ne_of_gt (Heap.lt_size ei)
  have Nl : t.heap.objs.size ≠ l := Nat.ne_of_gt (Heap.lt_size el)
  refine callType_codes (Q₁ := fun v t1 => v = .ref t.heap.objs.size ∧ t1 = { t with heap := t.heap.push { cls := .type "list", data := .seq #[] } }) PySem.F.called_list (PySem.F.typeCall_list_1 _) PySem.F.entry_list_init (code_list_new _ ⟨rfl, rfl⟩) fun v t1 h1 => ?_
  obtain ⟨rfl, rfl⟩ := h1
  have hN : (t.heap.push { cls := .type "list", data := .seq #[] }).get? t.heap.objs.size = some { cls := .type "list", data := .seq #[] } := Heap.get?_push_size _ rfl
  refine ⟨⟨_, hN, rfl⟩, PySem.F.args_list_init_2 _ _, init_rev (B := B.in1) calm (hr.at fun o e => Heap.get?_push_of_some _ e) (hl.push _) lr hN Nr Nl sz fun g tk acc k' kp h2 h3 => ?_⟩
  exact ⟨rfl, fin g tk acc k' (fun b o nr e => kp b o (Nat.ne_of_lt (Heap.lt_size e)) nr (Heap.get?_push_of_some _ e)) h2 h3⟩
end
variable {X : Cx} {K : PySem.W.Frag} {e : Expr} {te : TE} {te2 : TE2} {p1 p2 q1 q2 : Pos}
def tListRev (K : PySem.W.Frag) (te : TE) : TE := fun σ H Q => te σ H fun v H1 => ∃ (a : Addr) (xs : List V), v = .ref a ∧ SqL K H1 a xs ∧ ∀ q, H1 q = none → Q (.ref q) (upd H1 q (.lst xs.reverse))
theorem pe_listRev (calm : X.calm = true) (g1 : Gl X "list") (m1 : X.mg "list" = none) (g2 : Gl X "reversed") (m2 : X.mg "reversed" = none) (he : PE X e te)
    (s1 : starEach [e] X.env = (false, eval e X.env) :: starEach [] X.env := by rfl)
    (s2 : starEach [.Call (.Name "reversed" p2) [e] [] q2] X.env = (false, eval (.Call (.Name "reversed" p2) [e] [] q2) X.env) :: starEach [] X.env := by rfl) :
    PE X (.Call (.Name "list" p1) [.Call (.Name "reversed" p2) [e] [] q2] [] q1) (tListRev X.K te) := by
  refine ⟨fun pins s σ H Q I h => ?_⟩
  refine Call_ (ld_blt I g1 m1 boot_list (PyProof.Rows.callWith_type1 (args_cons (Call_ (ld_blt I g2 m2 PyProof.Rows.boot_reversed (PyProof.Rows.callWith_type1 (args_cons (thn (he.run pins s σ H _ I h) fun u b ⟨v, J, IJ, rv, hv⟩ => args_nil ?_) s1) s1 rfl))) s2) s2 rfl))
  obtain ⟨a, xs, rfl, ha, hq⟩ := hv
  obtain rfl : u = Value.ref a := rv
  obtain ⟨its, vs, ap, az⟩ := IJ.list ha
  refine call_reversed_list ap.isList (args_nil ?_)
  have IK : Inv X pins σ J { b with heap := b.heap.push (revObj a ((its.toArray.size : Int) - 1)) } := IJ.kept (t' := b.toks) fun c o e => Heap.get?_push_of_some _ e
  have al := ap.isList
  have an : a ≠ b.heap.objs.size := Nat.ne_of_lt ap.lt
  refine call_listRev (t := { b with heap := b.heap.push (revObj a ((its.toArray.size : Int) - 1)) }) (IJ.ok.hd calm) ⟨_, Heap.get?_push_size _ rfl, rfl, rfl⟩ (al.push _) an (by rw [List.size_toArray, ← vs.length]; exact az) fun g tk acc k kp hN hi => ?_
  have new : ObjOk X.prog X.w (upd J (b.heap.push (revObj a ((its.toArray.size : Int) - 1))).objs.size (.lst xs.reverse)) g (b.heap.push (revObj a ((its.toArray.size : Int) - 1))).objs.size (.lst xs.reverse) := ⟨by rw [List.length_reverse]; exact az, acc.toList, k, RT.vals_rev vs hi, by rw [Array.toArray_toList]; exact hN⟩
  refine ⟨.ref (b.heap.push (revObj a ((its.toArray.size : Int) - 1))).objs.size, upd J (b.heap.push (revObj a ((its.toArray.size : Int) - 1))).objs.size (.lst xs.reverse), Inv.turnedNew (s := { b with heap := b.heap.push (revObj a ((its.toArray.size : Int) - 1)) }) (t' := tk) (ch := [b.heap.objs.size]) IK (fun c o hc e => kp c o (fun z => hc (List.mem_singleton.mpr z)) e) (fun c hc => ?_) (Nat.le_refl _) new, rfl, hq _ (IK.hok.fresh (Nat.le_refl _))⟩
  rw [List.mem_singleton.mp hc]
  exact IJ.fpOk (Nat.le_refl _) (IJ.hok.fresh (Nat.le_refl _))
def dListRevK (Q : DK) : DK := fun d μ1 => ∃ ds, asL μ1 d = some ds ∧ ∀ p, μ1 p = none → Q (.adr p) (mup μ1 p (.lst ds.reverse))
def dListRev (te2 : TE2) : TE2 := fun ρ μ Q => te2 ρ μ (dListRevK Q)
theorem w_listRevK {Q : DK} {d : D} {μ : Mu} {ds : List D} (h : asL μ d = some ds) (q : ∀ p, μ p = none → Q (.adr p) (mup μ p (.lst ds.reverse))) : dListRevK Q d μ := ⟨ds, h, q⟩
instance st_listRev {ρ : Env2} {μ : Mu} {Q : DK} : Step (dListRev te2 ρ μ Q) (te2 ρ μ (dListRevK Q)) := ⟨fun q => q⟩
instance hd_listRevK {Q : DK} {d : D} {μ : Mu} : HdA (dListRevK Q d μ) := ⟨fun q => q⟩
theorem e_listRev [Jx] (calm : X.calm = true) (g1 : Gl X "list") (m1 : X.mg "list" = none) (g2 : Gl X "reversed") (m2 : X.mg "reversed" = none) (he : PE2 X e te te2)
    (s1 : starEach [e] X.env = (false, eval e X.env) :: starEach [] X.env := by rfl)
    (s2 : starEach [.Call (.Name "reversed" p2) [e] [] q2] X.env = (false, eval (.Call (.Name "reversed" p2) [e] [] q2) X.env) :: starEach [] X.env := by rfl) :
    PE2 X (.Call (.Name "list" p1) [.Call (.Name "reversed" p2) [e] [] q2] [] q1) (tListRev X.K te) (dListRev te2) :=
  ⟨pe_listRev calm g1 m1 g2 m2 he.pe s1 s2, fun ρ μ Q2 q I σ H hA hS Q g => he.re ρ μ _ q I σ H hA hS _ fun d μ1 v I1 H1 q1 a1 k1 r1 => by
    obtain ⟨ds, h, q⟩ := q1
    obtain ⟨a, us, rfl, hH, rr⟩ := asL_at a1 r1 h
    exact ⟨a, us, rfl, .inl (.inl hH), fun p hp => g _ _ _ _ _ (q p (a1.noM hp)) (a1.got hp ⟨_, rfl, rr.reverse⟩) (k1.trans (Kp.got hp)) rfl⟩⟩
theorem e_isOk [Jx] {a b : Expr} {p pos : Pos} {tl : TA} {tl2 : TA2} (K : PySem.W.Frag) (hK : X.K = K) (hg : Gl X "isinstance") (hm : X.mg "isinstance" = none) (ha : PA2 X [a, b] tl tl2) (he : starEach [a, b] X.env = (false, eval a X.env) :: starEach [b] X.env := by rfl) (hpl : (backTo pos (starEach [b] X.env)).any (·.1) = false := by rfl) :
    PE2 X (.Call (.Name "isinstance" p) [a, b] [] pos) (tCB (rIsi X.K) tl) (dCB (dIsO K) tl2) := by
  subst hK
  exact e_isO hg hm ha (he := he) (hpl := hpl)
end Y

set_option Elab.async false
set_option linter.all false
set_option maxRecDepth 100000
set_option maxHeartbeats 4000000
namespace Y
open PySem PySem.Spec PyProof.Rows L2
/-! xs.remove(k), xs.index(k) of whole numbers -/
variable {X : Cx} {K : PySem.W.Frag} {a b c e f i o : Expr} {es rest : List Expr} {ta tb tc te tf to ti : TE} {ta2 tb2 tc2 te2 tf2 to2 ti2 : TE2} {pos apos cpos p q tpos : Pos} {tl : TA} {tl2 : TA2} {x : Str}
variable {ρ : Env2} {μ : Mu} {Q : DK} {k j : Nat}
theorem takesF {X : Cx} : Takes X (fun _ _ _ _ => False) := fun _ _ x => by
  obtain ⟨_, _, _, _, _, _, _, _, _, _, _, _, _, _, _, _, z⟩ := x
  exact z.elim
def dRem (to ti : TE2) : TE2 := fun ρ μ Q => to ρ μ fun x μ1 => dTy "list" x μ1 (ti ρ μ1 fun y μ2 => ∃ p ns k, x = .adr p ∧ y = .int k ∧ μ2 p = some (.lst (List.map D.int ns)) ∧ k ∈ ns ∧ Q .non (mup μ2 p (.lst ((ns.erase k).map D.int))))
def dRemK (x : D) (Q : DK) : DK := fun y μ2 => ∃ p ns k, x = .adr p ∧ y = .int k ∧ μ2 p = some (.lst (List.map D.int ns)) ∧ k ∈ ns ∧ Q .non (mup μ2 p (.lst ((ns.erase k).map D.int)))
theorem w_rem (h : to2 ρ μ fun x μ1 => dTy "list" x μ1 (ti2 ρ μ1 (dRemK x Q))) : dRem to2 ti2 ρ μ Q := h
theorem w_remK {p : Addr} {ns : List Int} {k : Int} (h : μ p = some (.lst (ns.map D.int))) (hk : k ∈ ns) (q : Q .non (mup μ p (.lst ((ns.erase k).map D.int)))) : dRemK (.adr p) Q (.int k) μ := ⟨p, ns, k, rfl, rfl, h, hk, q⟩
theorem e_remove [Jx] (hc : X.calm = true) (ho : PE2 X o to to2) (he : PE2 X e te te2) (hbase : attributeBase o "remove" X.env (eval o X.env) = eval o X.env := by rfl)
    (hfew : ((backTo cpos (starEach [e] X.env)).all (fun x => !x.1) && (backToKw cpos (keywordEach [] X.env)).all (fun x => x.1.isSome)
      && decide (([e] : List Expr).length + ([] : List Keyword).length + (if ([] : List Keyword).isEmpty then 0 else 1) < 30)) = true := by rfl)
    (hline : (apos.endLine == cpos.line) = true := by rfl) (hs : starEach [e] X.env = (false, eval e X.env) :: starEach [] X.env := by rfl) (hplain : (backTo cpos (starEach [] X.env)).any (·.1) = false := by rfl) :
    PE2 X (.Call (.Attribute o "remove" apos) [e] [] cpos) (tRemX X.K (fun _ _ _ _ => False) to te) (dRem to2 te2) :=
  ⟨pe_remX hc takesF ho.pe he.pe hbase hfew hline hs hplain, fun ρ μ Q2 h I σ H hA hS Q g => ho.re ρ μ _ h I σ H hA hS _ fun x μ1 vx I1 H1 h1 A1 k1 r1 => by
    obtain ⟨ty, h1⟩ := h1
    refine ⟨tyO_ok A1 r1 ty, he.re ρ μ1 _ h1 I1 σ H1 A1 (hS.mono k1.ex) _ fun y μ2 vy I2 H2 h2 A2 k2 r2 => ?_⟩
    obtain ⟨p, ns, k, rfl, rfl, hp, hk, q⟩ := h2
    have e2 : vx = .ref p := r1
    have e3 : vy = .int k := r2
    subst e2 e3
    obtain ⟨hI, ob, ho, us, rfl, hr⟩ := A2.own p _ hp
    cases hr.ints_inv
    refine ⟨p, ns, k, rfl, rfl, ho, fun _ => ?_, fun h => absurd hk h⟩
    exact g _ _ _ _ _ q (A2.put hp ⟨_, rfl, RpA.ints _⟩) ((k1.trans k2).trans (Kp.put hp)) rfl⟩
/-- xs.index(x), of whole numbers or texts -/
def dIndexI : DRM := fun x xs μ Q => ∃ (ys : List Int) (z : Int) (j : Nat), asL μ x = some (ys.map D.int) ∧ xs = [.int z] ∧ ys[j]? = some z ∧ (∀ m, m < j → ys[m]? ≠ some z) ∧ Q (.int (j : Nat)) μ
def dIndexA : DRM := fun x xs μ Q => dIndexS x xs μ Q ∨ dIndexI x xs μ Q
theorem w_indexAS {x : D} {ys : List Str} {z : Str} (j : Nat) (h : asL μ x = some (ys.map D.str)) (h1 : ys[j]? = some z) (h2 : ∀ m, m < j → ys[m]? ≠ some z) (q : Q (.int (j : Nat)) μ) : dIndexA x [.str z] μ Q := .inl (w_indexS j h h1 h2 q)
theorem w_indexAI {x : D} {ys : List Int} {z : Int} (j : Nat) (h : asL μ x = some (ys.map D.int)) (h1 : ys[j]? = some z) (h2 : ∀ m, m < j → ys[m]? ≠ some z) (q : Q (.int (j : Nat)) μ) : dIndexA x [.int z] μ Q := .inr ⟨ys, z, j, h, rfl, h1, h2, q⟩
theorem rm_indexA [Jx] : RM K (rIndex K) dIndexA := fun x xs μ Q2 q I H v vs hA rx rs Q k => by
  rcases q with q | q
  · exact rm_indexS x xs μ Q2 q I H v vs hA rx rs Q k
  obtain ⟨ys, z, j, h, rfl, h1, h2, q⟩ := q
  obtain ⟨p, ws, rfl, e1, e2⟩ := asL_at hA rx h
  cases e2.ints_inv
  obtain ⟨w, rfl, rw'⟩ := rs.one_inv
  cases (show w = _ from rw')
  refine ⟨p, ys.map V.int, .int z, j, .int z, rfl, rfl, SqL.of e1, rfl, ?_, ?_, ?_, ?_, k _ _ _ _ _ q hA Kp.refl rfl⟩
  · rw [List.all_map]; exact List.all_eq_true.mpr fun _ _ => rfl
  · rw [List.getElem?_map, h1]; rfl
  · show (z == z) = true; exact beq_self_eq_true _
  · intro m z' hm e
    rw [List.getElem?_map] at e
    cases q2 : ys[m]? with
    | none => rw [q2] at e; cases e
    | some y =>
      rw [q2] at e
      cases e
      show (y == z) = false
      exact beq_eq_false_iff_ne.mpr fun z2 => h2 m hm (by rw [q2, z2])
theorem e_indexA [Jx] (ho : PE2 X o to to2) (ha : PA2 X [e] tl tl2) (hbase : attributeBase o "index" X.env (eval o X.env) = eval o X.env := by rfl)
    (hfew : ((backTo cpos (starEach [e] X.env)).all (fun x => !x.1) && (backToKw cpos (keywordEach [] X.env)).all (fun x => x.1.isSome) && decide ([e].length + ([] : List Keyword).length + (if ([] : List Keyword).isEmpty then 0 else 1) < 30)) = true := by rfl)
    (hline : (apos.endLine == cpos.line) = true := by rfl) (hs : starEach [e] X.env = (false, eval e X.env) :: starEach [] X.env := by rfl) : PE2 X (.Call (.Attribute o "index" apos) [e] [] cpos) (tBM X.K "list" (rIndex X.K) to tl) (dBM "list" dIndexA to2 tl2) :=
  e_bm PySem.F.plainAttrs_list PySem.F.slot_list_index PySem.F.type_list_index mt_index rm_indexA ho ha hbase hfew hline hs
theorem hu_in {X : Cx} {k : Nat} (hr : Room k X.A) : X.A.units + 1 < cLine := Nat.lt_of_le_of_lt (Nat.add_le_add_left (by decide) _) hr.units
theorem m_inD [Jx] (hr : Room k X.A) (hi : PE2 X i ti ti2) (ho : PE2 X o to to2) (hm : behindInMarks .In o = false := by rfl) : PE2 X (.Compare i [.In] [o] pos) (tDIn ti to) (dOp dInD ti2 to2) := e_inD hr hi ho hm
theorem m_notInD [Jx] (hr : Room k X.A) (hi : PE2 X i ti ti2) (ho : PE2 X o to to2) (hm : behindInMarks .NotIn o = false := by rfl) : PE2 X (.Compare i [.NotIn] [o] pos) (tDNotIn ti to) (dOp dNotInD ti2 to2) := e_notInD hr hi ho hm
theorem t_inD [Jx] (hr : Room k X.A) (hi : PE2 X i ti ti2) (ho : PE2 X o to to2) (hm : behindInMarks .In o = false := by rfl) : PT2 X (.Compare i [.In] [o] pos) (tB (tDIn ti to)) (dVal (dOp dInD ti2 to2)) :=
  ⟨pt_cmp (pc_din (hu_in hr) hi.pe ho.pe) hm, fun ρ μ T F q I σ H hA hS Q g1 g2 => re_inD hi.re ho.re ρ μ _ q I σ H hA hS _ fun d μ' v I' H' q' a' k' r' => re_val a' r' q' (g1.past k') (g2.past k')⟩
theorem t_notInD [Jx] (hr : Room k X.A) (hi : PE2 X i ti ti2) (ho : PE2 X o to to2) (hm : behindInMarks .NotIn o = false := by rfl) : PT2 X (.Compare i [.NotIn] [o] pos) (tB (tDNotIn ti to)) (dVal (dOp dNotInD ti2 to2)) :=
  ⟨pt_cmp (pc_dnotin (hu_in hr) hi.pe ho.pe) hm, fun ρ μ T F q I σ H hA hS Q g1 g2 => re_notInD hi.re ho.re ρ μ _ q I σ H hA hS _ fun d μ' v I' H' q' a' k' r' => re_val a' r' q' (g1.past k') (g2.past k')⟩
instance st_rem {ρ : Env2} {μ : Mu} {Q : DK} : Step (dRem to2 ti2 ρ μ Q) (to2 ρ μ fun x μ1 => dTy "list" x μ1 (ti2 ρ μ1 (dRemK x Q))) := ⟨fun q => q⟩
end Y

set_option Elab.async false
set_option linter.all false
set_option maxRecDepth 100000
set_option maxHeartbeats 4000000
namespace Y
open PySem PySem.Spec PyProof.Rows L2
/-! == and != of rows that are alike item by item, whatever they hold; of rows of other lengths -/
def EqW (K : PySem.W.Frag) (H : Hp) : Nat → V → V → Prop
  | 0 => fun _ _ => False
  | n + 1 => fun x y => (x = y ∧ flatB x = true) ∨ (∃ a, x = .ref a ∧ y = .ref a) ∨ (∃ a b xs ys, x = .ref a ∧ y = .ref b ∧ SqL K H a xs ∧ SqL K H b ys ∧ Paired (EqW K H n) xs ys) ∨
      ∃ a b xs ys, x = .ref a ∧ y = .ref b ∧ SqT K H a xs ∧ SqT K H b ys ∧ Paired (EqW K H n) xs ys
theorem items_at {A : Around} {s : Shared} {F : V → V → Prop} (ih : ∀ x y v u, F x y → RelV x v → RelV y u → SeqAt.EqAt A s v u true) {xs ys : List V} (hp : Paired F xs ys) :
    ∀ {us ws : List Value}, Vals xs us → Vals ys ws → ∀ j (h1 : j < us.length) (h2 : j < ws.length), SeqAt.EqAt A s us[j] ws[j] true := by
  induction hp with
  | nil =>
    intro us ws r1 r2 j h1 h2
    cases r1
    exact absurd h1 (Nat.not_lt_zero j)
  | cons h _ k =>
    intro us ws r1 r2 j h1 h2
    cases r1 with
    | cons a1 b1 =>
      cases r2 with
      | cons a2 b2 =>
        cases j with
        | zero => exact ih _ _ _ _ h a1 a2
        | succ j => exact k b1 b2 j (Nat.lt_of_succ_lt_succ h1) (Nat.lt_of_succ_lt_succ h2)
section
variable {X : Cx} {pins : List (Addr × Obj)} {σ : L2.St} {H : Hp} {s : Shared}
theorem all_true (n : Nat) : ((List.range n).all fun _ => true) = true := List.all_eq_true.mpr fun _ _ => rfl
theorem rcL (I : Inv X pins σ H s) {A : Around} {F : V → V → Prop} (hu : A.units < cLine) (ih : ∀ x y v u, F x y → RelV x v → RelV y u → SeqAt.EqAt A.in1 s v u true) {a b : Addr} {xs ys : List V} (ha : SqL X.K H a xs) (hb : SqL X.K H b ys) (hp : Paired F xs ys) :
    SeqAt.RcAt A s (.ref a) (.ref b) true ∧ SeqAt.RcNeAt A s (.ref a) (.ref b) false := by
  obtain ⟨us, r1, p1, _⟩ := I.list ha
  obtain ⟨ws, r2, p2, _⟩ := I.list hb
  have hsz : us.toArray.size = ws.toArray.size := by
    rw [List.size_toArray, List.size_toArray, ← r1.length, ← r2.length]
    exact Paired.length hp
  have he : ∀ j (h1 : j < us.toArray.size) (h2 : j < ws.toArray.size), SeqAt.EqAt A.in1 s us.toArray[j] ws.toArray[j] ((fun _ => true) j) := fun j h1 h2 => by
    have k := items_at ih hp r1 r2 j (by simpa using h1) (by simpa using h2)
    simpa using k
  have k1 := SeqAt.RcAt.lists (e := fun _ => true) p1.isList p2.isList hsz hu he
  have k2 := SeqAt.RcNeAt.lists (e := fun _ => true) p1.isList p2.isList hsz hu he
  rw [all_true] at k1 k2
  exact ⟨k1, k2⟩
theorem rcT (I : Inv X pins σ H s) {A : Around} {F : V → V → Prop} (hu : A.units < cLine) (ih : ∀ x y v u, F x y → RelV x v → RelV y u → SeqAt.EqAt A.in1 s v u true) {a b : Addr} {xs ys : List V} (ha : SqT X.K H a xs) (hb : SqT X.K H b ys) (hp : Paired F xs ys) :
    SeqAt.RcAt A s (.ref a) (.ref b) true ∧ SeqAt.RcNeAt A s (.ref a) (.ref b) false := by
  obtain ⟨us, r1, p1, _⟩ := I.tuple ha
  obtain ⟨ws, r2, p2, _⟩ := I.tuple hb
  have hsz : us.toArray.size = ws.toArray.size := by
    rw [List.size_toArray, List.size_toArray, ← r1.length, ← r2.length]
    exact Paired.length hp
  have he : ∀ j (h1 : j < us.toArray.size) (h2 : j < ws.toArray.size), SeqAt.EqAt A.in1 s us.toArray[j] ws.toArray[j] ((fun _ => true) j) := fun j h1 h2 => by
    have k := items_at ih hp r1 r2 j (by simpa using h1) (by simpa using h2)
    simpa using k
  have k1 := SeqAt.RcAt.tuples (e := fun _ => true) p1 p2 hu he
  have k2 := SeqAt.RcNeAt.tuples (e := fun _ => true) p1 p2 hu he
  rw [all_true, hsz, beq_self_eq_true] at k1 k2
  exact ⟨k1, k2⟩
theorem eqW_run (I : Inv X pins σ H s) : ∀ (n : Nat) (A : Around), A.units + n < cLine → ∀ (x y : V) (v u : Value), EqW X.K H n x y → RelV x v → RelV y u → SeqAt.EqAt A s v u true
  | 0, _, _, _, _, _, _, h, _, _ => (show False from h).elim
  | n + 1, A, hu, x, y, v, u, h, rx, ry => by
    have ih := eqW_run I n A.in1 (by show A.units + 1 + n < cLine; omega)
    rcases h with ⟨rfl, f⟩ | ⟨a, rfl, rfl⟩ | ⟨a, b, xs, ys, rfl, rfl, ha, hb, hp⟩ | ⟨a, b, xs, ys, rfl, rfl, ha, hb, hp⟩
    · exact eqAt_same rx ry f
    · cases (show v = Value.ref a from rx)
      cases (show u = Value.ref a from ry)
      exact SeqAt.EqAt.same _
    · cases (show v = Value.ref a from rx)
      cases (show u = Value.ref b from ry)
      by_cases e : a = b
      · subst e; exact SeqAt.EqAt.same _
      · exact SeqAt.EqAt.of_refs e (rcL I (by omega) ih ha hb hp).1
    · cases (show v = Value.ref a from rx)
      cases (show u = Value.ref b from ry)
      by_cases e : a = b
      · subst e; exact SeqAt.EqAt.same _
      · exact SeqAt.EqAt.of_refs e (rcT I (by omega) ih ha hb hp).1
end
/-- alike rows, a row beside the empty one, lists of other lengths, an empty dict beside itself -/
def RowsAre (K : PySem.W.Frag) (H : Hp) (x y : V) (k : Bool) : Prop :=
  (∃ n a b xs ys, n ≤ 60 ∧ x = .ref a ∧ y = .ref b ∧ ((SqL K H a xs ∧ SqL K H b ys) ∨ (SqT K H a xs ∧ SqT K H b ys)) ∧ Paired (EqW K H n) xs ys ∧ k = true) ∨
  (∃ a b xs, x = .ref a ∧ y = .ref b ∧ SqT K H a xs ∧ SqT K H b [] ∧ k = xs.isEmpty) ∨
  (∃ a b xs ys, x = .ref a ∧ y = .ref b ∧ SqL K H a xs ∧ SqL K H b ys ∧ xs.length ≠ ys.length ∧ k = false)
def rEqX (K : PySem.W.Frag) : R2 := fun x y H Q => ∃ k, RowsAre K H x y k ∧ Q (.bl k) H
def rNeX (K : PySem.W.Frag) : R2 := fun x y H Q => ∃ k, RowsAre K H x y k ∧ Q (.bl (!k)) H
section
variable {X : Cx}
theorem rows_run {pins : List (Addr × Obj)} {σ : L2.St} {H : Hp} {s : Shared} (hu : X.A.units + 64 < cLine) (I : Inv X pins σ H s) {x y : V} {v u : Value} {k : Bool} (rx : RelV x v) (ry : RelV y u) (h : RowsAre X.K H x y k) : SeqAt.RcAt X.A s v u k ∧ SeqAt.RcNeAt X.A s v u (!k) := by
  rcases h with ⟨n, a, b, xs, ys, hn, rfl, rfl, hs, hp, rfl⟩ | ⟨a, b, xs, rfl, rfl, ha, hb, rfl⟩ | ⟨a, b, xs, ys, rfl, rfl, ha, hb, hl, rfl⟩
  · cases (show v = Value.ref a from rx)
    cases (show u = Value.ref b from ry)
    have ih := eqW_run I n X.A.in1 (by show X.A.units + 1 + n < cLine; omega)
    rcases hs with ⟨ha, hb⟩ | ⟨ha, hb⟩
    · exact rcL I (by omega) ih ha hb hp
    · exact rcT I (by omega) ih ha hb hp
  · cases (show v = Value.ref a from rx)
    cases (show u = Value.ref b from ry)
    obtain ⟨us, r1, p1, _⟩ := I.tuple ha
    obtain ⟨ws, r2, p2, _⟩ := I.tuple hb
    have hw : ws = [] := by cases r2; rfl
    subst hw
    have hl : us.length = xs.length := r1.length.symm
    have he : ∀ j (h1 : j < us.toArray.size) (h2 : j < ([] : List Value).toArray.size), SeqAt.EqAt X.A.in1 s us.toArray[j] ([] : List Value).toArray[j] ((fun _ => true) j) := fun j h1 h2 => absurd h2 (Nat.not_lt_zero j)
    have k1 := SeqAt.RcAt.tuples (e := fun _ => true) p1 p2 (by omega) he
    have k2 := SeqAt.RcNeAt.tuples (e := fun _ => true) p1 p2 (by omega) he
    have e : (us.toArray.size == ([] : List Value).toArray.size) = xs.isEmpty := by
      rw [List.size_toArray, List.size_toArray, hl]
      cases xs <;> rfl
    rw [all_true, e, Bool.true_and] at k1 k2
    exact ⟨k1, k2⟩
  · cases (show v = Value.ref a from rx)
    cases (show u = Value.ref b from ry)
    obtain ⟨us, r1, p1, _⟩ := I.list ha
    obtain ⟨ws, r2, p2, _⟩ := I.list hb
    have hsz : (us.toArray.size != ws.toArray.size) = true := by
      rw [List.size_toArray, List.size_toArray, ← r1.length, ← r2.length]
      exact bne_iff_ne.mpr hl
    exact ⟨SeqAt.RcAt.lists_lengths p1.isList p2.isList hsz (by omega), SeqAt.RcNeAt.lists_lengths p1.isList p2.isList hsz (by omega)⟩
theorem op_eqX (hu : X.A.units + 64 < cLine) : OpR X (compareOp .Eq) (rEqX X.K) := by
  intro pins s σ H x y v u Q I rx ry h
  obtain ⟨k, h, q⟩ := h
  exact (rows_run hu I rx ry h).1 _ _ _ _ ⟨.bl k, H, I, rfl, q⟩
theorem op_neX (hu : X.A.units + 64 < cLine) : OpR X (compareOp .NotEq) (rNeX X.K) := by
  intro pins s σ H x y v u Q I rx ry h
  obtain ⟨k, h, q⟩ := h
  exact (rows_run hu I rx ry h).2 _ _ _ _ ⟨.bl (!k), H, I, rfl, q⟩
end
/-! over trees -/
def EqDn (μ : Mu) : Nat → D → D → Prop
  | 0 => fun _ _ => False
  | n + 1 => fun x y => (x = y ∧ x.flat = true) ∨ (∃ a, x = .adr a ∧ y = .adr a) ∨ (∃ ds es, asL μ x = some ds ∧ asL μ y = some es ∧ Paired (EqDn μ n) ds es) ∨ ∃ ds es, x = .tup ds ∧ y = .tup es ∧ Paired (EqDn μ n) ds es
theorem flat_b {I : Hp} {K : PySem.W.Frag} {d : D} {v : V} (h : d.flat = true) (r : Rp K I d v) : flatB v = true := by
  cases d with
  | non => cases (show v = _ from r); rfl
  | bl _ => cases (show v = _ from r); rfl
  | int _ => cases (show v = _ from r); rfl
  | str _ => cases (show v = _ from r); rfl
  | ty _ => cases h
  | adr _ => cases h
  | tup _ => cases h
  | lst _ => cases h
  | obj _ _ _ => cases h
  | scr _ => cases h
  | tun _ => cases h
theorem eqDn_run [Jx] {K : PySem.W.Frag} {I H : Hp} {μ : Mu} (hA : At K μ I H) : ∀ (n : Nat) (x y : D) (v u : V), EqDn μ n x y → Rp K I x v → Rp K I y u → EqW K H n v u
  | 0, _, _, _, _, h, _, _ => (show False from h).elim
  | n + 1, x, y, v, u, h, rx, ry => by
    have lift : ∀ {ds es : List D} {vs us : List V}, Paired (EqDn μ n) ds es → RpA K I ds vs → RpA K I es us → Paired (EqW K H n) vs us := by
      intro ds es vs us hp
      induction hp generalizing vs us with
      | nil =>
        intro r1 r2
        cases (show vs = _ from r1)
        cases (show us = _ from r2)
        exact .nil
      | cons h _ ih =>
        intro r1 r2
        obtain ⟨v1, w1, rfl, a1, b1⟩ := r1
        obtain ⟨v2, w2, rfl, a2, b2⟩ := r2
        exact .cons (eqDn_run hA n _ _ _ _ h a1 a2) (ih b1 b2)
    rcases h with ⟨rfl, f⟩ | ⟨a, rfl, rfl⟩ | ⟨ds, es, h1, h2, hp⟩ | ⟨ds, es, rfl, rfl, hp⟩
    · refine .inl ⟨?_, flat_b f rx⟩
      rw [(flat_v f rx).1, (flat_v f ry).1]
    · exact .inr (.inl ⟨a, rx, ry⟩)
    · obtain ⟨p, vs, rfl, k1, k2⟩ := asL_at hA rx h1
      obtain ⟨q, us, rfl, j1, j2⟩ := asL_at hA ry h2
      exact .inr (.inr (.inl ⟨p, q, vs, us, rfl, rfl, SqL.of k1, SqL.of j1, lift hp k2 j2⟩))
    · obtain ⟨p, vs, rfl, k1, k2⟩ := rx
      obtain ⟨q, us, rfl, j1, j2⟩ := ry
      exact .inr (.inr (.inr ⟨p, q, vs, us, rfl, rfl, (show Exx I H from hA.sub).sqt k1, (show Exx I H from hA.sub).sqt j1, lift hp k2 j2⟩))
def DRows (μ : Mu) (x y : D) (k : Bool) : Prop :=
  (∃ n, n ≤ 60 ∧ ((∃ ds es, asL μ x = some ds ∧ asL μ y = some es ∧ Paired (EqDn μ n) ds es) ∨ ∃ ds es, x = .tup ds ∧ y = .tup es ∧ Paired (EqDn μ n) ds es) ∧ k = true) ∨
  (∃ ds, x = .tup ds ∧ y = .tup [] ∧ k = ds.isEmpty) ∨ ∃ ds es, asL μ x = some ds ∧ asL μ y = some es ∧ ds.length ≠ es.length ∧ k = false
theorem drows [Jx] {K : PySem.W.Frag} {I H : Hp} {μ : Mu} {x y : D} {v u : V} {k : Bool} (hA : At K μ I H) (rx : Rp K I x v) (ry : Rp K I y u) (h : DRows μ x y k) : RowsAre K H v u k := by
  have lift : ∀ n {ds es : List D} {vs us : List V}, Paired (EqDn μ n) ds es → RpA K I ds vs → RpA K I es us → Paired (EqW K H n) vs us := by
    intro n ds es vs us hp
    induction hp generalizing vs us with
    | nil =>
      intro r1 r2
      cases (show vs = _ from r1)
      cases (show us = _ from r2)
      exact .nil
    | cons h _ ih =>
      intro r1 r2
      obtain ⟨v1, w1, rfl, a1, b1⟩ := r1
      obtain ⟨v2, w2, rfl, a2, b2⟩ := r2
      exact .cons (eqDn_run hA n _ _ _ _ h a1 a2) (ih b1 b2)
  rcases h with ⟨n, hn, h, rfl⟩ | ⟨ds, rfl, rfl, rfl⟩ | ⟨ds, es, h1, h2, hl, rfl⟩
  · rcases h with ⟨ds, es, h1, h2, hp⟩ | ⟨ds, es, rfl, rfl, hp⟩
    · obtain ⟨p, vs, rfl, k1, k2⟩ := asL_at hA rx h1
      obtain ⟨q, us, rfl, j1, j2⟩ := asL_at hA ry h2
      exact .inl ⟨n, p, q, vs, us, hn, rfl, rfl, .inl ⟨SqL.of k1, SqL.of j1⟩, lift n hp k2 j2, rfl⟩
    · obtain ⟨p, vs, rfl, k1, k2⟩ := rx
      obtain ⟨q, us, rfl, j1, j2⟩ := ry
      exact .inl ⟨n, p, q, vs, us, hn, rfl, rfl, .inr ⟨(show Exx I H from hA.sub).sqt k1, (show Exx I H from hA.sub).sqt j1⟩, lift n hp k2 j2, rfl⟩
  · obtain ⟨p, vs, rfl, k1, k2⟩ := rx
    obtain ⟨q, us, rfl, j1, j2⟩ := ry
    cases (show us = _ from j2)
    refine .inr (.inl ⟨p, q, vs, rfl, rfl, (show Exx I H from hA.sub).sqt k1, (show Exx I H from hA.sub).sqt j1, ?_⟩)
    have := k2.length
    cases ds <;> cases vs <;> first | rfl | cases this
  · obtain ⟨p, vs, rfl, k1, k2⟩ := asL_at hA rx h1
    obtain ⟨q, us, rfl, j1, j2⟩ := asL_at hA ry h2
    exact .inr (.inr ⟨p, q, vs, us, rfl, rfl, SqL.of k1, SqL.of j1, by rw [k2.length, j2.length]; exact hl, rfl⟩)
def dEqX : DR2 := fun x y μ Q => dEq x y μ Q ∨ (∃ k, DRows μ x y k ∧ Q (.bl k) μ) ∨ ∃ a, x = .adr a ∧ y = .adr a ∧ μ a = some (.dk []) ∧ Q (.bl true) μ
def dNeX : DR2 := fun x y μ Q => dNe x y μ Q ∨ ∃ k, DRows μ x y k ∧ Q (.bl (!k)) μ
section
variable {X : Cx} {K : PySem.W.Frag} {a b c e f i o : Expr} {ta tb tc te tf to ti : TE} {ta2 tb2 tc2 te2 tf2 to2 ti2 : TE2} {pos : Pos} {ρ : Env2} {μ : Mu} {Q : DK} {k : Nat}
abbrev rAllEq (K : PySem.W.Frag) : R2 := rOr (rOr rEq (rEqD K)) (rOr (rEqX K) (rEqV K))
abbrev rAllNe (K : PySem.W.Frag) : R2 := rOr (rOr rNe (rNeD K)) (rNeX K)
theorem rr_eqX [Jx] : RR K (rAllEq K) dEqX := fun x y μ Q2 q I H vx vy hA rx ry Q k => by
  rcases q with q | ⟨k', h, q⟩ | ⟨a, rfl, rfl, hq, q⟩
  · exact .inl (rr_eq x y μ Q2 q I H vx vy hA rx ry Q k)
  · exact .inr (.inl ⟨k', drows hA rx ry h, k _ _ _ _ _ q hA Kp.refl rfl⟩)
  · obtain ⟨_, ob, ho, hvs, rfl, hr⟩ := hA.own a _ hq
    cases hr
    refine .inr (.inr ⟨1, by decide, .inr ⟨a, a, [], [], rx, ry, ho, ho, rfl, fun p hp => by cases hp⟩, k _ _ _ _ _ q hA Kp.refl rfl⟩)
theorem rr_neX [Jx] : RR K (rAllNe K) dNeX := fun x y μ Q2 q I H vx vy hA rx ry Q k => by
  rcases q with q | ⟨k', h, q⟩
  · exact .inl (rr_ne x y μ Q2 q I H vx vy hA rx ry Q k)
  · exact .inr ⟨k', drows hA rx ry h, k _ _ _ _ _ q hA Kp.refl rfl⟩
theorem e_eqX [Jx] (hr : Room k X.A) (ha : PE2 X a ta ta2) (hb : PE2 X b tb tb2) : PE2 X (.Compare a [.Eq] [b] pos) (tOp (rAllEq X.K) ta tb) (dOp dEqX ta2 tb2) := e_cmp (opOr (opOr op_eq (op_eqD hr.units)) (opOr (op_eqX hr.units) (op_eqV hr.units))) rr_eqX ha hb (nomark _)
theorem e_neX [Jx] (hr : Room k X.A) (ha : PE2 X a ta ta2) (hb : PE2 X b tb tb2) : PE2 X (.Compare a [.NotEq] [b] pos) (tOp (rAllNe X.K) ta tb) (dOp dNeX ta2 tb2) := e_cmp (opOr (opOr op_ne (op_neD hr.units)) (op_neX hr.units)) rr_neX ha hb (nomark _)
theorem t_eqX [Jx] (hr : Room k X.A) (ha : PE2 X a ta ta2) (hb : PE2 X b tb tb2) : PT2 X (.Compare a [.Eq] [b] pos) (tTest (tOp (rAllEq X.K) ta tb)) (dVal (dOp dEqX ta2 tb2)) := t_cmp (opOr (opOr op_eq (op_eqD hr.units)) (opOr (op_eqX hr.units) (op_eqV hr.units))) rr_eqX ha hb (nomark _)
theorem t_neX [Jx] (hr : Room k X.A) (ha : PE2 X a ta ta2) (hb : PE2 X b tb tb2) : PT2 X (.Compare a [.NotEq] [b] pos) (tTest (tOp (rAllNe X.K) ta tb)) (dVal (dOp dNeX ta2 tb2)) := t_cmp (opOr (opOr op_ne (op_neD hr.units)) (op_neX hr.units)) rr_neX ha hb (nomark _)
theorem w_eqX0 {x y : D} (h : dEq x y μ Q) : dEqX x y μ Q := .inl h
theorem w_neX0 {x y : D} (h : dNe x y μ Q) : dNeX x y μ Q := .inl h
theorem w_eqXE {ds : List D} (q : Q (.bl ds.isEmpty) μ) : dEqX (.tup ds) (.tup []) μ Q := .inr (.inl ⟨_, .inr (.inl ⟨ds, rfl, rfl, rfl⟩), q⟩)
theorem w_neXE {ds : List D} (q : Q (.bl (!ds.isEmpty)) μ) : dNeX (.tup ds) (.tup []) μ Q := .inr ⟨_, .inr (.inl ⟨ds, rfl, rfl, rfl⟩), q⟩
theorem w_eqXT {ds es : List D} (n : Nat) (hn : n ≤ 60) (h : Paired (EqDn μ n) ds es) (q : Q (.bl true) μ) : dEqX (.tup ds) (.tup es) μ Q := .inr (.inl ⟨_, .inl ⟨n, hn, .inr ⟨ds, es, rfl, rfl, h⟩, rfl⟩, q⟩)
theorem w_eqXL {x y : D} {ds es : List D} (h1 : asL μ x = some ds) (h2 : asL μ y = some es) (n : Nat) (hn : n ≤ 60) (h : Paired (EqDn μ n) ds es) (q : Q (.bl true) μ) : dEqX x y μ Q := .inr (.inl ⟨_, .inl ⟨n, hn, .inl ⟨ds, es, h1, h2, h⟩, rfl⟩, q⟩)
theorem w_neXL {x y : D} {ds es : List D} (h1 : asL μ x = some ds) (h2 : asL μ y = some es) (n : Nat) (hn : n ≤ 60) (h : Paired (EqDn μ n) ds es) (q : Q (.bl false) μ) : dNeX x y μ Q := .inr ⟨_, .inl ⟨n, hn, .inl ⟨ds, es, h1, h2, h⟩, rfl⟩, q⟩
theorem w_neXT {ds es : List D} (n : Nat) (hn : n ≤ 60) (h : Paired (EqDn μ n) ds es) (q : Q (.bl false) μ) : dNeX (.tup ds) (.tup es) μ Q := .inr ⟨_, .inl ⟨n, hn, .inr ⟨ds, es, rfl, rfl, h⟩, rfl⟩, q⟩
theorem w_eqXK {a : Addr} (h : μ a = some (.dk [])) (q : Q (.bl true) μ) : dEqX (.adr a) (.adr a) μ Q := .inr (.inr ⟨a, rfl, rfl, h, q⟩)
theorem EqDn.flat {n : Nat} {x : D} (h : x.flat = true) : EqDn μ (n + 1) x x := .inl ⟨rfl, h⟩
theorem EqDn.adr {n : Nat} {a : Addr} : EqDn μ (n + 1) (.adr a) (.adr a) := .inr (.inl ⟨a, rfl, rfl⟩)
theorem EqDn.tup {n : Nat} {ds es : List D} (h : Paired (EqDn μ n) ds es) : EqDn μ (n + 1) (.tup ds) (.tup es) := .inr (.inr (.inr ⟨ds, es, rfl, rfl, h⟩))
theorem EqDn.lst {n : Nat} {x y : D} {ds es : List D} (h1 : asL μ x = some ds) (h2 : asL μ y = some es) (h : Paired (EqDn μ n) ds es) : EqDn μ (n + 1) x y := .inr (.inr (.inl ⟨ds, es, h1, h2, h⟩))
end
end Y

set_option Elab.async false
set_option linter.all false
set_option maxRecDepth 100000
set_option maxHeartbeats 4000000
namespace Y
open PySem PySem.Spec PyProof.Rows L2
/-! a dict of the module holds no other keys than these -/
structure Kda (K : PySem.W.Frag) (p : Addr) (zs : List Str) : Prop where
  no : ∀ z, z ∉ zs → PySem.W.nsIn K p z = some none
def kaB (x : Str) (zs : List Str) : Fb := fun K => (match K.lookup (He.ga K x) with
  | some ⟨_, _, .dict es _, _⟩ => es.toList.all fun e => (match e.key with
    | .str s _ => decide (s ∈ zs)
    | _ => false)
  | _ => false)
theorem ka_mk {K : PySem.W.Frag} {x : Str} {zs : List Str} (c : kaB x zs K = true) : Kda K (He.ga K x) zs := ⟨fun z hz => by
  unfold kaB at c
  split at c
  · rename_i t d es n sl e
    have hk : ∀ e ∈ es.toList, ∃ s t, e.key = .str s t ∧ s ∈ zs := fun e he => by
      have := List.all_eq_true.mp c e he
      split at this
      · rename_i s t e2
        exact ⟨s, t, e2, of_decide_eq_true this⟩
      · cases this
    unfold PySem.W.nsIn
    rw [e]
    have h1 : es.toList.find? (·.key.isStr z) = none := List.find?_eq_none.mpr fun e he => by
      obtain ⟨s, t, e2, hs⟩ := hk e he
      rw [e2]
      intro q
      have q2 : (s == z) = true := q
      exact hz (beq_iff_eq.mp q2 ▸ hs)
    have h2 : es.toList.any (·.refKey) = false := List.any_eq_false.mpr fun e he => by
      obtain ⟨s, t, e2, hs⟩ := hk e he
      unfold PySem.DictEntry.refKey
      rw [e2]
      exact Bool.false_ne_true
    show (match es.toList.find? (·.key.isStr z) with | some e => some (some e.val) | none => if es.toList.any (·.refKey) then none else some none) = some none
    rw [h1, h2]; rfl
  · cases c⟩
variable {X : Cx} {K : PySem.W.Frag} {a b c e f i o : Expr} {ta tb tc te tf to ti : TE} {ta2 tb2 tc2 te2 tf2 to2 ti2 : TE2} {pos : Pos} {ρ : Env2} {μ : Mu} {Q : DK} {k : Nat} {wp : Params} {rows : List (Str × List Str)} {d : Addr} {x : Str}
def dNotInKa (d : Addr) (rows : List (Str × List Str)) : DR2 := fun x y μ Q => ∃ z, x = .str z ∧ y = .adr d ∧ (((rows.lookup z).isSome = true ∧ Q (.bl false) μ) ∨ z ∉ rows.map (·.1) ∧ Q (.bl true) μ)
theorem w_notInKa0 {z : Str} {ws : List Str} (h : rows.lookup z = some ws) (q : Q (.bl false) μ) : dNotInKa d rows (.str z) (.adr d) μ Q := ⟨z, rfl, rfl, .inl ⟨by rw [h]; rfl, q⟩⟩
theorem w_notInKa1 {z : Str} (h : z ∉ rows.map (·.1)) (q : Q (.bl true) μ) : dNotInKa d rows (.str z) (.adr d) μ Q := ⟨z, rfl, rfl, .inr ⟨h, q⟩⟩
theorem rr_notInKa [Jx] {mg : Str → Option Value} (G : Kdt wp K mg x d rows) (N : Kda K d (rows.map (·.1))) : RR K (rvNotInKd K d) (dNotInKa d rows) := fun x y μ Q2 q I H vx vy hA rx ry Q k => by
  obtain ⟨z, rfl, rfl, q⟩ := q
  cases (show vx = _ from rx)
  cases (show vy = _ from ry)
  rcases q with ⟨h, q⟩ | ⟨h, q⟩
  · obtain ⟨ws, hw⟩ := Option.isSome_iff_exists.mp h
    obtain ⟨qa, ob, its, m, e1, _⟩ := G.row z ws hw
    exact ⟨z, _, rfl, rfl, e1, k _ _ _ _ _ q hA Kp.refl rfl⟩
  · exact ⟨z, none, rfl, rfl, N.no z h, k _ _ _ _ _ q hA Kp.refl rfl⟩
theorem t_notInKa [Jx] (G : Kdt X.w.params X.K X.mg x d rows) (N : Kda X.K d (rows.map (·.1))) (ha : PE2 X a ta ta2) (hb : PE2 X b tb tb2) (hm : behindInMarks .NotIn b = false) : PT2 X (.Compare a [.NotIn] [b] pos) (tTest (tOp (rvNotInKd X.K d) ta tb)) (dVal (dOp (dNotInKa d rows) ta2 tb2)) := t_cmp G.opN (rr_notInKa G N) ha hb hm
theorem e_notInKa [Jx] (G : Kdt X.w.params X.K X.mg x d rows) (N : Kda X.K d (rows.map (·.1))) (ha : PE2 X a ta ta2) (hb : PE2 X b tb tb2) (hm : behindInMarks .NotIn b = false) : PE2 X (.Compare a [.NotIn] [b] pos) (tOp (rvNotInKd X.K d) ta tb) (dOp (dNotInKa d rows) ta2 tb2) := e_cmp G.opN (rr_notInKa G N) ha hb hm
end Y

set_option Elab.async false
set_option linter.all false
set_option maxRecDepth 100000
set_option maxHeartbeats 4000000
namespace Y
open PySem PySem.Spec PyProof.Rows L2
/-! the first item -/
variable {μ : Mu} {Q : DK}
theorem atI0 {α : Type} {x : α} {r : List α} : atI (x :: r) 0 = some x := by
  unfold atI
  have e : ixN (x :: r).length 0 = some 0 := by
    unfold ixN
    rw [if_pos (by decide), if_pos (by rw [List.length_cons]; omega)]; rfl
  rw [e]; rfl
theorem w_ixT0 {d : D} {ds : List D} (q : Q d μ) : dIx (.tup (d :: ds)) (.int 0) μ Q := w_ixT atI0 q
theorem w_ixL0 {d : D} {ds : List D} (q : Q d μ) : dIx (.lst (d :: ds)) (.int 0) μ Q := w_ixL atI0 q
section
variable {K : PySem.W.Frag} {C C' a : Addr} {ns : List Str} {W2 : Env2 → XK2} {tl2 : TA2} {te2 ta2 : TE2} {D2 : Ends2} {ρ : Env2} {μ : Mu} {Q : DK} {c : Value} {i : Nat} {tb2 : (Env2 → XK2) → TS2} {ts2 : Addr → Addr → List (Str × D) → TS2} {sp : Sp2} {fs : List (Str × D)} {f : Str}
instance st_raise : Step (dRaise C ns W2 tl2 D2 ρ μ) (tl2 ρ μ (dRaiseK C ns (W2 ρ))) := ⟨fun q => q⟩
instance st_try : Step (dTry K c i tb2 ts2 W2 D2 ρ μ) (tb2 (wAs2 K c i ts2 W2 D2) D2 ρ μ) := ⟨fun q => q⟩
instance st_callX : Step (dCallX sp W2 tl2 ρ μ Q) (tl2 ρ μ fun ds μ1 => sp ds μ1 Q (W2 ρ)) := ⟨fun q => q⟩
instance st_xf : Step (dXf a C C' fs f ta2 ρ μ Q) (ta2 ρ μ (dXfK a C C' fs f Q)) := ⟨fun q => q⟩
instance st_isXT : Step (dIsXT K a C te2 tl2 ρ μ Q) (te2 ρ μ fun x μ1 => tl2 ρ μ1 (dIsXTK K a C Q x)) := ⟨fun q => q⟩
end
end Y

set_option Elab.async false
set_option linter.all false
set_option maxRecDepth 100000
set_option maxHeartbeats 4000000
namespace Y
open PySem PySem.Spec PyProof.Rows L2
/-! text * n -/
def rep (z : Str) (n : Nat) : Str := ⟨(List.replicate n z.cps).foldl (· ++ ·) #[]⟩
theorem rep_one (z : Str) : rep z 1 = z := by
  unfold rep
  show (⟨(#[] : Array Nat) ++ z.cps⟩ : Str) = z
  rw [Array.empty_append]
theorem fold_app : ∀ (n : Nat) (a b : Array Nat), ((List.replicate n b).foldl (· ++ ·) a).toList = a.toList ++ (List.replicate n b.toList).flatten
  | 0, a, b => by simp
  | n + 1, a, b => by
    rw [List.replicate_succ, List.foldl_cons, fold_app n (a ++ b) b, Array.toList_append, List.replicate_succ, List.flatten_cons, List.append_assoc]
theorem rep_list (z : Str) (n : Nat) : (rep z n).cps.toList = (List.replicate n z.cps.toList).flatten := by
  show ((List.replicate n z.cps).foldl (· ++ ·) #[]).toList = _
  rw [fold_app]; rfl
theorem rep_len (z : Str) (n : Nat) : (rep z n).length = n * z.length := by
  show (rep z n).cps.size = n * z.cps.size
  rw [← Array.length_toList, rep_list, List.length_flatten, List.map_replicate, List.sum_replicate_nat, Array.length_toList]
theorem rep_zero (z : Str) : rep z 0 = Str.empty := rfl
theorem rep_emp (z : Str) (n : Nat) (h : z.length = 0) : rep z n = z := by
  have h1 : (rep z n).cps.toList = z.cps.toList := by
    rw [rep_list]
    have : z.cps.toList = [] := List.length_eq_zero_iff.mp (by rw [Array.length_toList]; exact h)
    rw [this]
    simp
  exact congrArg Str.mk (Array.toList_inj.mp h1)
def rMulS : R2 := fun x y H Q => ∃ (z : Str) (n : Nat), x = .str z ∧ y = .int (n : Int) ∧ n ≤ 100000 ∧ z.length * n ≤ 16777216 ∧ Q (.str (rep z n)) H
theorem op_mulS {X : Cx} : OpR X (binaryOp .Mult) rMulS := by
  intro pins s σ H x y v u Q I rx ry h
  obtain ⟨z, n, rfl, rfl, hn, hz, q⟩ := h
  obtain ⟨t, rfl⟩ := rx
  obtain ⟨t', rfl⟩ := ry
  refine PySem.P.mul_str ?_ ?_ ?_ ?_
  · rw [decide_eq_false (by omega), decide_eq_false (by omega)]; rfl
  · intro h1 _ h2
    have h3 : (z.length : Int) * (n : Int) ≤ 2 ^ 63 - 1 := by
      rw [← Int.natCast_mul]
      exact Int.le_trans (Int.ofNat_le.mpr hz) (by decide)
    have h4 : (0 : Int) < n := by omega
    have h5 : (z.length : Int) ≤ (2 ^ 63 - 1) / n := Int.le_ediv_of_mul_le h4 h3
    exact absurd h2 (Int.not_lt.mpr h5)
  · intro h1 _
    show decide (z.length * (n : Int).toNat > sizeLine) = false
    rw [Int.toNat_natCast, decide_eq_false]
    rw [sizeLine_eq]; omega
  · by_cases h1 : (n : Int) < 1
    · rw [if_pos h1]
      have e : n = 0 := by omega
      subst e
      exact ⟨by decide, .str _, H, I.tok _, ⟨_, rfl⟩, q⟩
    · rw [if_neg h1]
      by_cases h2 : ((n : Int) == 1 || z.length == 0) = true
      · rw [if_pos h2]
        rw [Bool.or_eq_true] at h2
        have e : rep z n = z := by
          rcases h2 with h2 | h2
          · have : n = 1 := by have := beq_iff_eq.mp h2; omega
            subst this; exact rep_one z
          · exact rep_emp z n (beq_iff_eq.mp h2)
        rw [e] at q
        exact ⟨.str z, H, I, ⟨_, rfl⟩, q⟩
      · rw [if_neg h2, Int.toNat_natCast]
        refine ⟨?_, .str (rep z n), H, I.tok _, ⟨_, rfl⟩, q⟩
        show (rep z n).length ≤ sizeLine
        rw [rep_len, sizeLine_eq, Nat.mul_comm]; exact hz
variable {X : Cx} {K : PySem.W.Frag} {a b : Expr} {ta tb : TE} {ta2 tb2 : TE2} {pos : Pos} {μ : Mu} {Q : DK}
def dMulT : DR2 := fun x y μ Q => dMulA x y μ Q ∨ ∃ (z : Str) (n : Nat), x = .str z ∧ y = .int (n : Int) ∧ n ≤ 100000 ∧ z.length * n ≤ 16777216 ∧ Q (.str (rep z n)) μ
theorem rr_mulT [Jx] : RR K (rOr rvMulA rMulS) dMulT := fun x y μ Q2 q I H vx vy hA rx ry Q k => by
  rcases q with q | ⟨z, n, rfl, rfl, hn, hz, q⟩
  · exact .inl (rr_mulA x y μ Q2 q I H vx vy hA rx ry Q k)
  · exact .inr ⟨z, n, rx, ry, hn, hz, k _ _ _ _ _ q hA Kp.refl rfl⟩
theorem e_mulT [Jx] (ha : PE2 X a ta ta2) (hb : PE2 X b tb tb2) : PE2 X (.BinOp a .Mult b pos) (tOp (rOr rvMulA rMulS) ta tb) (dOp dMulT ta2 tb2) := e_op (opOr (opOr op_mul (opOr op_mulW op_rep)) op_mulS) rr_mulT ha hb
theorem w_mulT {z : Str} {k : Int} (n : Nat) (hk : k = (n : Int)) (hn : n ≤ 100000) (hz : z.length * n ≤ 16777216) (q : Q (.str (rep z n)) μ) : dMulT (.str z) (.int k) μ Q := .inr ⟨z, n, rfl, by rw [hk], hn, hz, q⟩
end Y

set_option Elab.async false
set_option linter.all false
set_option maxRecDepth 100000
set_option maxHeartbeats 4000000
namespace Y
open PySem PySem.Spec PyProof.Rows L2
/-! within try, and within a suite: the frag told by name -/
section
variable {X : Cx} {x : Str} {j k : Nat} {ps : List Str} {sp : Sp2} {W : WX} {W2 : Env2 → XK2} {tl : TA} {tl2 : TA2} {p pos tpos : Pos} {e c : Expr} {es : List Expr} {a C : Addr} {oe : Obj} {pn : List (Addr × Obj)} {cls : Value} {d : Option Addr} {fs : List (Str × D)} {te : TE} {te2 : TE2}
theorem e_callXk [Jx] (K : PySem.W.Frag) (hK : X.K = K) (F : Dx X.prog X.w X.K X.mg X.base x j ps sp) (hw : Wl X W2 W) (hr : Room k X.A) (hg : Gl X x) (ha : PA2 X (e :: es) tl tl2) (hjk : j ≤ k := by first | decide | omega) (hdb : (x == ("__debug__" : Str)) = false := by decide) (he : starEach (e :: es) X.env = (false, eval e X.env) :: starEach es X.env := by rfl) (hpl : (backTo pos (starEach es X.env)).any (·.1) = false := by rfl) :
    PE2 X (.Call (.Name x p) (e :: es) [] pos) (tCallS (toSp K sp) (WE W) tl) (dCallX sp W2 tl2) := by
  subst hK
  exact e_callX F hw hr hg ha hjk hdb he hpl
theorem e_isXk [Jx] (K : PySem.W.Frag) (hK : X.K = K) (hz : Zc cls d oe) (hf : ∃ vs, oe.data = .fields vs) (hx : Xs X.K cls d C fs) (hg : Gl (X.suite a ((a, oe) :: pn)) "isinstance") (hm : (X.suite a ((a, oe) :: pn)).mg "isinstance" = none) (ha : PA2 (X.suite a ((a, oe) :: pn)) [e, c] tl tl2) (hv : bootBuiltins "isinstance" = some (.builtin "isinstance") := by decide +kernel)
    (he : starEach [e, c] (X.suite a ((a, oe) :: pn)).env = (false, eval e (X.suite a ((a, oe) :: pn)).env) :: starEach [c] (X.suite a ((a, oe) :: pn)).env := by rfl) (hpl : (backTo pos (starEach [c] (X.suite a ((a, oe) :: pn)).env)).any (·.1) = false := by rfl) :
    PE2 (X.suite a ((a, oe) :: pn)) (.Call (.Name "isinstance" p) [e, c] [] pos) (tCB (rIsX K a cls d) tl) (dCB (dIsX K a C) tl2) := by
  subst hK
  exact e_isX hz hf hx hg hm ha hv he hpl
theorem e_isXTk [Jx] {x1} (K : PySem.W.Frag) (hK : X.K = K) (hz : Zc cls d oe) (hf : ∃ vs, oe.data = .fields vs) (hx : Xs X.K cls d C fs) (hg : Gl (X.suite a ((a, oe) :: pn)) "isinstance") (hm : (X.suite a ((a, oe) :: pn)).mg "isinstance" = none) (he2 : PE2 (X.suite a ((a, oe) :: pn)) e te te2) (hl : PA2 (X.suite a ((a, oe) :: pn)) es tl tl2)
    (hv : bootBuiltins "isinstance" = some (.builtin "isinstance") := by decide +kernel) (he : starEach [e, .Tuple es x1 tpos] (X.suite a ((a, oe) :: pn)).env = (false, eval e (X.suite a ((a, oe) :: pn)).env) :: starEach [.Tuple es x1 tpos] (X.suite a ((a, oe) :: pn)).env := by rfl)
    (hpl : (backTo pos (starEach [.Tuple es x1 tpos] (X.suite a ((a, oe) :: pn)).env)).any (·.1) = false := by rfl) (hs2 : starEach [.Tuple es x1 tpos] (X.suite a ((a, oe) :: pn)).env = (false, eval (.Tuple es x1 tpos) (X.suite a ((a, oe) :: pn)).env) :: starEach [] (X.suite a ((a, oe) :: pn)).env := by rfl) :
    PE2 (X.suite a ((a, oe) :: pn)) (.Call (.Name "isinstance" p) [e, .Tuple es x1 tpos] [] pos) (tCB (rIsXT K a cls d) (tCons te (tCons (tTup tl) tNil))) (dIsXT K a C te2 tl2) := by
  subst hK
  exact e_isXT hz hf hx hg hm he2 hl hv he hpl hs2
end
end Y

set_option Elab.async false
set_option linter.all false
set_option maxRecDepth 100000
set_option maxHeartbeats 4000000
namespace Y
open PySem PySem.Spec PyProof.Rows L2
/-! x.partition(sep), x.isdigit(), CONST.get(k, x) of a module's dict of texts -/
section
variable {X : Cx} {K : PySem.W.Frag} {o e f : Expr} {to te tf : TE} {to2 te2 tf2 : TE2} {pos apos cpos : Pos} {ρ : Env2} {μ : Mu} {Q : DK} {k : Nat}
abbrev rvPartn : V → List V → Hp → VK → Prop := fun x xs H Q => ∃ a b, x = .str a ∧ xs = [.str b] ∧ (b.length == 0) = false ∧ a.length ≤ sizeLine ∧
      ∀ p, H p = none → Q (.ref p) (upd H p (.tup [.str (Txt.partition a b).1, .str (Txt.partition a b).2.1, .str (Txt.partition a b).2.2]))
def dPartn : D → D → Mu → DK → Prop := fun x y μ Q => ∃ a b, x = .str a ∧ y = .str b ∧ (b.length == 0) = false ∧ a.length ≤ sizeLine ∧ Q (.tup ([(Txt.partition a b).1, (Txt.partition a b).2.1, (Txt.partition a b).2.2].map D.str)) μ
theorem w_partn {a b : Str} (h1 : (b.length == 0) = false) (h2 : a.length ≤ sizeLine) (q : Q (.tup ([(Txt.partition a b).1, (Txt.partition a b).2.1, (Txt.partition a b).2.2].map D.str)) μ) : dPartn (.str a) (.str b) μ Q := ⟨a, b, rfl, rfl, h1, h2, q⟩
theorem e_partition [Jx] (ho : PE2 X o to to2) (he : PE2 X e te te2) (hs : starEach [e] X.env = [(false, eval e X.env)] := by rfl) (hbase : attributeBase o "partition" X.env (eval o X.env) = eval o X.env := by rfl) (hline : (apos.endLine == pos.line) = true := by rfl) :
    PE2 X (.Call (.Attribute o "partition" apos) [e] [] pos) (tM1 rvPartn to te) (dM1 dPartn to2 te2) := ⟨pe_partition ho.pe he.pe hs hbase hline, re_m1 (fun x y μ Q2 q I H v u hA rx ry Q k => by
    obtain ⟨a, b, rfl, rfl, h1, h2, q⟩ := q
    refine ⟨a, b, rx, by rw [show u = _ from ry], h1, h2, ?_⟩
    exact go_newT q hA (RpA.strs _) k) ho.re he.re⟩
/-- x.isdigit() -/
def dM0 (r : D → Mu → DK → Prop) (to : TE2) : TE2 := fun ρ μ Q => to ρ μ fun x μ1 => ∃ a, x = .str a ∧ r x μ1 Q
def dM0K (r : D → Mu → DK → Prop) (Q : DK) : DK := fun x μ1 => ∃ a, x = .str a ∧ r x μ1 Q
theorem w_m0 {r : D → Mu → DK → Prop} (h : to2 ρ μ (dM0K r Q)) : dM0 r to2 ρ μ Q := h
theorem w_m0K {r : D → Mu → DK → Prop} {a : Str} (h : r (.str a) μ Q) : dM0K r Q (.str a) μ := ⟨a, rfl, h⟩
abbrev rvIsDigit : V → List V → Hp → VK → Prop := fun x xs H Q => ∃ a, x = .str a ∧ xs = [] ∧ True ∧ Q (.bl (Txt.isdigit a)) H
def dIsDigit : D → Mu → DK → Prop := fun x μ Q => ∃ a, x = .str a ∧ Q (.bl (Txt.isdigit a)) μ
theorem w_isDigit {a : Str} (q : Q (.bl (Txt.isdigit a)) μ) : dIsDigit (.str a) μ Q := ⟨a, rfl, q⟩
theorem e_isdigit [Jx] (ho : PE2 X o to to2) (hbase : attributeBase o "isdigit" X.env (eval o X.env) = eval o X.env := by rfl) (hline : (apos.endLine == pos.line) = true := by rfl) :
    PE2 X (.Call (.Attribute o "isdigit" apos) [] [] pos) (tM0 rvIsDigit to) (dM0 dIsDigit to2) := ⟨pe_m0 F.slot_str_isdigit F.type_str_isdigit mt_isdigit ho.pe hbase hline, fun ρ μ Q2 q I σ H hA hS Q g =>
  ho.re ρ μ _ q I σ H hA hS _ fun d μ1 v I1 H1 q1 a1 k1 r1 => by
    obtain ⟨z, rfl, a, e1, q1⟩ := q1
    cases e1
    exact ⟨⟨z, r1⟩, z, r1, rfl, trivial, g _ _ _ _ _ q1 a1 k1 rfl⟩⟩
end
/-! ### CONST.get(k, x) -/
/-- a dict of the module, texts to texts -/
structure Kds (wp : Params) (K : PySem.W.Frag) (mg : Str → Option Value) (x : Str) (p : Addr) (rows : List (Str × Str)) : Prop where
  mg : mg x = some (.ref p)
  of : ∃ es n, K.lookup p = some ⟨.type "dict", none, .dict es n, #[]⟩ ∧ PySem.W.KeysLit wp es.toList
  low : (p == sysModules) = false
  row : ∀ z v, rows.lookup z = some v → ∃ t, PySem.W.nsIn K p z = some (some (.str v t))
  no : ∀ z, rows.lookup z = none → PySem.W.nsIn K p z = some none
section
variable {X : Cx} {K : PySem.W.Frag} {o e f : Expr} {to te tf : TE} {to2 te2 tf2 : TE2} {pos apos cpos : Pos} {ρ : Env2} {μ : Mu} {Q : DK} {k : Nat} {d : Addr} {es : Array DictEntry} {n : Nat} {x : Str} {rows : List (Str × Str)}
theorem e_globDs [Jx] (G : Kds X.w.params X.K X.mg x d rows) (hg : Gl X x) (hd : (x == ("__debug__" : Str)) = false := by decide) : PE2 X (.Name x pos) (tC (.ref d)) (dC (.adr d)) := e_cst (pe_glob hg G.mg rfl hd) fun _ => rfl
def tDGetK (K : PySem.W.Frag) (d : Addr) (td ty tx : TE) : TE := fun σ H Q => td σ H fun x H1 => x = .ref d ∧ ty σ H1 fun y H2 => tx σ H2 fun z H3 => ∃ (t : Str) (r : Option Value), y = .str t ∧ PySem.W.nsIn K d t = some r ∧ (r = none → Q z H3) ∧ ∀ u, r = some u → ∃ v, RelV v u ∧ Q v H3
theorem pe_dgetK (D : KDict X.K X.w d es n) (ho : PE X o to) (he : PE X e te) (hf : PE X f tf) (m : M2 X o "get" apos e f cpos) : PE X (.Call (.Attribute o "get" apos) [e, f] [] cpos) (tDGetK X.K d to te tf) := by
  refine ⟨fun pins s σ H Q I h => ?_⟩
  refine wpAny_Call_method m.base m.few m.line PySem.F.plainAttrs_dict PySem.F.slot_dict_get PySem.F.type_dict_get (thn (ho.run pins s σ H _ I h) fun u s1 ⟨x, H1, I1, rx, ex, q1⟩ => ?_)
  subst ex
  obtain rfl : u = Value.ref d := rx
  refine ⟨kd_type D I1, fun b e => ?_, ?_⟩
  · cases e
    exact ⟨_, I1.kIn _ _ D.at_, rfl⟩
  rw [m.trees]
  refine Calls.callWith_builtin rfl (Calls.evalArgs_plain (Calls.spliced_cons (thn (he.run pins s1 σ H1 _ I1 q1) fun iv s2 ⟨y, H2, I2, ry, q2⟩ =>
    Calls.spliced_cons (thn (hf.run pins s2 σ H2 _ I2 q2) fun fv s3 ⟨z, H3, I3, rz, t, r, ey, e, q3, q4⟩ => Calls.spliced_nil ?_))))
  subst ey
  obtain ⟨tk, rfl⟩ := ry
  refine call_meetsIn PySem.F.slot_dict_get (kd_type D I3) PySem.F.entry_dict_get (PySem.F.args_dict_get_3 _ _ _) (meets_dict_get_default (strKind X.prog X.w) d (PySem.strKind_is X.prog X.w t tk) D.low fv) ⟨_, PySem.W.mapOf_K (prog := X.prog) I3.kIn D.at_ D.lit, ?_⟩
  rw [PySem.W.find_K D.at_ e]
  cases r with
  | none => exact ⟨z, H3, I3.tok _, rz, q3 rfl⟩
  | some u =>
    obtain ⟨v, rv, q⟩ := q4 u rfl
    exact ⟨v, H3, I3.tok _, rv, q⟩
def dGetS (d : Addr) (rows : List (Str × Str)) (to te tf : TE2) : TE2 := fun ρ μ Q => to ρ μ fun x μ1 => x = .adr d ∧ te ρ μ1 fun y μ2 => tf ρ μ2 fun z μ3 => ∃ t, y = .str t ∧ Q (((rows.lookup t).map D.str).getD z) μ3
def dGetSK (d : Addr) (N : Prop) : D → Prop := fun x => x = .adr d ∧ N
def dGetSL (rows : List (Str × Str)) (y : D) (Q : DK) : DK := fun z μ3 => ∃ t, y = .str t ∧ Q (((rows.lookup t).map D.str).getD z) μ3
theorem w_getS (h : to2 ρ μ fun x μ1 => dGetSK d (te2 ρ μ1 fun y μ2 => tf2 ρ μ2 (dGetSL rows y Q)) x) : dGetS d rows to2 te2 tf2 ρ μ Q := h
theorem w_getSK {N : Prop} (h : N) : dGetSK d N (.adr d) := ⟨rfl, h⟩
theorem w_getSL {t : Str} {z : D} (q : Q (((rows.lookup t).map D.str).getD z) μ) : dGetSL rows (.str t) Q z μ := ⟨t, rfl, q⟩
theorem e_getS [Jx] (G : Kds X.w.params X.K X.mg x d rows) (ho : PE2 X o to to2) (he : PE2 X e te te2) (hf : PE2 X f tf tf2) (hbase : attributeBase o "get" X.env (eval o X.env) = eval o X.env := by rfl)
    (hfew : ((backTo cpos (starEach [e, f] X.env)).all (fun x => !x.1) && (backToKw cpos (keywordEach [] X.env)).all (fun x => x.1.isSome) && decide (([e, f] : List Expr).length + ([] : List Keyword).length + (if ([] : List Keyword).isEmpty then 0 else 1) < 30)) = true := by rfl)
    (hline : (apos.endLine == cpos.line) = true := by rfl) (hs : backTo cpos (starEach [e, f] X.env) = [(false, eval e X.env), (false, eval f X.env)] := by rfl) :
    PE2 X (.Call (.Attribute o "get" apos) [e, f] [] cpos) (tDGetK X.K d to te tf) (dGetS d rows to2 te2 tf2) := by
  obtain ⟨es, n, h1, h2⟩ := G.of
  exact ⟨pe_dgetK ⟨h1, h2, G.low⟩ ho.pe he.pe hf.pe ⟨hbase, hfew, hline, hs⟩, fun ρ μ Q2 q I σ H hA hS Q g => ho.re ρ μ _ q I σ H hA hS _ fun x μ1 vx I1 H1 q1 a1 k1 r1 => by
    obtain ⟨rfl, q1⟩ := q1
    cases (show vx = _ from r1)
    refine ⟨rfl, he.re ρ μ1 _ q1 I1 σ H1 a1 (hS.mono k1.ex) _ fun y μ2 vy I2 H2 q2 a2 k2 r2 => hf.re ρ μ2 _ q2 I2 σ H2 a2 (hS.mono (k1.trans k2).ex) _ fun z μ3 vz I3 H3 q3 a3 k3 r3 => ?_⟩
    obtain ⟨t, rfl, q3⟩ := q3
    cases (show vy = _ from r2)
    cases e : rows.lookup t with
    | none =>
      rw [e] at q3
      exact ⟨t, none, rfl, G.no t e, (fun _ => g _ _ _ _ _ q3 a3 ((k1.trans k2).trans k3) r3), fun u h => by cases h⟩
    | some v =>
      rw [e] at q3
      obtain ⟨tk, e1⟩ := G.row t v e
      exact ⟨t, _, rfl, e1, (fun h => by cases h), fun u h => by
        cases h
        exact ⟨.str v, ⟨tk, rfl⟩, g _ _ _ _ _ q3 a3 ((k1.trans k2).trans k3) rfl⟩⟩⟩
end
end Y

set_option Elab.async false
set_option linter.all false
set_option maxRecDepth 100000
set_option maxHeartbeats 4000000
namespace Y
open PySem PySem.Spec PyProof.Rows L2
/-! try: .. except R: .. without a name; steps -/
def wOnly2 (K : PySem.W.Frag) (c : Value) (ts2 : TS2) (Wout2 : Env2 → XK2) (D2 : Ends2) : Env2 → XK2 := fun ρ C fs μ =>
  ∃ b, PySem.W.exmOne K (.ref C) c = some b ∧ (b = true → ts2 D2 ρ μ) ∧ (b = false → Wout2 ρ C fs μ)
theorem w_caughtN {K : PySem.W.Frag} {c : Value} {ts2 : TS2} {Wout2 : Env2 → XK2} {D2 : Ends2} {ρ : Env2} {C : Addr} {fs : List (Str × D)} {μ : Mu} (h : PySem.W.exmOne K (.ref C) c = some true) (q : ts2 D2 ρ μ) : wOnly2 K c ts2 Wout2 D2 ρ C fs μ :=
  ⟨true, h, fun _ => q, fun z => by cases z⟩
def dTryN (K : PySem.W.Frag) (c : Value) (tb2 : (Env2 → XK2) → TS2) (ts2 : TS2) (Wout2 : Env2 → XK2) : TS2 := fun D2 ρ μ => tb2 (wOnly2 K c ts2 Wout2 D2) D2 ρ μ
theorem s_tryN [jx : Jx] {X : Cx} {x : Str} {c : Value} {body suite : List Stmt} {b₀ : Stmt} {np pos pos' : Pos} {tb : WX → TS} {tb2 : (Env2 → XK2) → TS2} {ts : Addr → Value → Option Addr → TS} {ts2 : TS2} {Wout : WX} {Wout2 : Env2 → XK2}
    (hw : Wl X Wout2 Wout) (hc : Names X x c)
    (hb : ∀ [Jx] (W2 : Env2 → XK2) (W : WX) (pn : List (Addr × Obj)) (xe : Value → Shared → Prop), Wl (X.tr pn xe) W2 W → PSs2 (X.tr pn xe) body (tb W) (tb2 W2))
    (hsu : ∀ [Jx] (a : Addr) (oe : Obj) (cls : Value) (d : Option Addr) (pn : List (Addr × Obj)), Zc cls d oe → (∃ vs, oe.data = .fields vs) → PSs2 (X.suite a ((a, oe) :: pn)) (b₀ :: suite) (ts a cls d) ts2)
    (hs : X.stack = X.env :: X.outer := by rfl) (hf : X.env.frame = some X.env.locals := by rfl) :
    PS2 X (.Try body [.ExceptHandler (some (.Name x np)) none (b₀ :: suite) pos'] [] [] pos) (fun D σ H => tb (wOnly X.K c ts Wout D) D σ H) (dTryN X.K c tb2 ts2 Wout2) := by
  refine ⟨ps_try_only hs hf hc hw.tk (fun W pn xe tk _ => @PSs2.ps Jx.off _ _ _ _ (@hb Jx.off (fun _ _ _ _ => False) W pn xe (@Wl.mk Jx.off _ _ _ tk fun _ _ _ _ _ _ _ _ _ _ _ j => j.elim)))
    (fun a oe cls d pn hz hv => @PSs2.ps Jx.off _ _ _ _ (@hsu Jx.off a oe cls d pn hz hv)), fun D2 ρ μ q I σ H hA hS D g => ?_⟩
  have past : ∀ {I' : Hp} {μ' : Mu} {H' : Hp}, Kp I μ H I' μ' H' → GoS X.K I' μ' H' D2 D := fun k => g.past k
  let j1 : Jx := ⟨fun I' μ' H' => jx.J I' μ' H' ∧ Kp I μ H I' μ' H', fun a b => ⟨jx.step a.1 b, a.2.trans b⟩⟩
  have hA1 : @At j1 X.K μ I H := @At.mk j1 _ _ _ _ (@At.toAt0 jx _ _ _ _ hA) ⟨@At.j jx _ _ _ _ hA, Kp.refl⟩
  have hw1 : @Wl j1 (X.tr [] fun _ _ => True) (wOnly2 X.K c ts2 Wout2 D2) (wOnly X.K c ts Wout D) := by
    refine @Wl.mk j1 _ _ _ (fun _ _ _ => trivial) ?_
    rintro ρ' σ' C fs I' μ' H' dx hfs ⟨b, hb1, hy, hn⟩ a0 ⟨jj, kk⟩ hS' hd hi' hr
    refine ⟨b, hb1, fun e a ha => ?_, fun e => @Wl.link jx _ _ _ hw ρ' σ' C fs I' μ' H' dx hfs (hn e) a0 jj hS' hd hi' hr⟩
    have hR := @PSs2.re jx _ _ _ _ (@hsu jx a { cls := .ref C, dict := some dx, data := .fields #[] } (.ref C) (some dx) [] ⟨rfl, rfl⟩ ⟨_, rfl⟩)
    exact hR D2 ρ' μ' (hy e) I' σ' H' (@At.mk jx _ _ _ _ a0 jj) hS' D (past kk)
  exact @PSs2.re j1 _ _ _ _ (@hb j1 _ _ _ _ hw1) D2 ρ μ q I σ H hA1 hS D (GoS.over (j1 := jx) (j2 := j1) (fun _ _ _ p => p.1) g)
/-! ### a dict of the module, texts to texts: facts -/
def ksB (x z v : Str) : Fb := fun K => (match PySem.W.nsIn K (He.ga K x) z with
  | some (some (.str u _)) => decide (u = v)
  | _ => false)
def KsRows (K : PySem.W.Frag) (p : Addr) : List (Str × Str) → Prop
  | [] => True
  | r :: rs => (∃ t, PySem.W.nsIn K p r.1 = some (some (.str r.2 t))) ∧ KsRows K p rs
theorem ks_mk {K : PySem.W.Frag} {x z v : Str} (c : ksB x z v K = true) : ∃ t, PySem.W.nsIn K (He.ga K x) z = some (some (.str v t)) := by
  unfold ksB at c
  split at c
  · rename_i u t e
    exact ⟨t, by rw [e, of_decide_eq_true c]⟩
  · cases c
theorem ks_rows {K : PySem.W.Frag} {p : Addr} : ∀ {rows : List (Str × Str)}, KsRows K p rows → ∀ z v, rows.lookup z = some v → ∃ t, PySem.W.nsIn K p z = some (some (.str v t))
  | [], _, z, v, h => by cases h
  | (y, u) :: r, ⟨h1, h2⟩, z, v, h => by
    rw [List.lookup_cons] at h
    cases q : z == y with
    | true =>
      rw [q] at h
      cases h
      rw [beq_iff_eq.mp q]; exact h1
    | false =>
      rw [q] at h
      exact ks_rows h2 z v h
theorem look_none {β : Type} {z : Str} : ∀ {rows : List (Str × β)}, rows.lookup z = none → z ∉ rows.map (·.1)
  | [], _ => List.not_mem_nil
  | (y, u) :: r, h => by
    rw [List.lookup_cons] at h
    cases q : z == y with
    | true => rw [q] at h; cases h
    | false =>
      rw [q] at h
      intro m
      rcases List.mem_cons.mp m with e | m
      · rw [beq_eq_false_iff_ne] at q; exact q e
      · exact look_none h m
theorem kds_mk {K : PySem.W.Frag} {h : Heap} {mg : Str → Option Value} (X : K.In h) (G : h.Ns mainGlobals mg) {w : World} {x : Str} {rows : List (Str × Str)} (c : glB x K = true) (d : ∃ es n, KDict K w (He.ga K x) es n) (r : KsRows K (He.ga K x) rows) (a : Kda K (He.ga K x) (rows.map (·.1))) : Kds w.params K mg x (He.ga K x) rows := by
  obtain ⟨es, n, kd⟩ := d
  exact { mg := He.glo_ok X G c, of := ⟨es, n, kd.at_, kd.lit⟩, low := kd.low, row := ks_rows r, no := fun z hz => a.no z (look_none hz) }
section
variable {X : Cx} {K : PySem.W.Frag} {to te tf : TE} {to2 te2 tf2 : TE2} {ρ : Env2} {μ : Mu} {Q : DK} {d : Addr} {rows : List (Str × Str)} {c : Value} {tb2 : (Env2 → XK2) → TS2} {ts2 : TS2} {W2 : Env2 → XK2} {D2 : Ends2}
instance st_m0 {r : D → Mu → DK → Prop} : Step (dM0 r to2 ρ μ Q) (to2 ρ μ (dM0K r Q)) := ⟨fun q => q⟩
instance st_m0K {r : D → Mu → DK → Prop} {a : Str} : Step (dM0K r Q (.str a) μ) (r (.str a) μ Q) := ⟨fun q => w_m0K q⟩
instance st_isDigit {a : Str} : Step (dIsDigit (.str a) μ Q) (Q (.bl (Txt.isdigit a)) μ) := ⟨fun q => w_isDigit q⟩
instance st_getS : Step (dGetS d rows to2 te2 tf2 ρ μ Q) (to2 ρ μ fun x μ1 => dGetSK d (te2 ρ μ1 fun y μ2 => tf2 ρ μ2 (dGetSL rows y Q)) x) := ⟨fun q => q⟩
instance st_getSK {N : Prop} : Step (dGetSK d N (.adr d)) N := ⟨fun q => ⟨rfl, q⟩⟩
instance st_getSL {t : Str} {z : D} : Step (dGetSL rows (.str t) Q z μ) (Q (((rows.lookup t).map D.str).getD z) μ) := ⟨fun q => w_getSL q⟩
instance st_tryN : Step (dTryN K c tb2 ts2 W2 D2 ρ μ) (tb2 (wOnly2 K c ts2 W2 D2) D2 ρ μ) := ⟨fun q => q⟩
end
end Y

set_option Elab.async false
set_option linter.all false
set_option maxRecDepth 100000
set_option maxHeartbeats 4000000
namespace Y
open PySem PySem.Spec PyProof.Rows L2
/-- the same suite, its readings told otherwise -/
theorem pss_as [Jx] {X : Cx} {b : List Stmt} {t t' : TS} {t2 t2' : TS2} (h : PSs2 X b t t2) (e : t = t') (e2 : t2 = t2') : PSs2 X b t' t2' := by
  subst e e2; exact h
end Y

set_option Elab.async false
set_option linter.all false
set_option maxRecDepth 100000
set_option maxHeartbeats 4000000
namespace Y
open PySem PySem.Spec PyProof.Rows L2
/-! isinstance(x, C), C an own class, x an instance of an own class or a thing of a built-in type -/
section
variable {K : PySem.W.Frag} {μ : Mu} {Q : DK}
def dIsV (K : PySem.W.Frag) : DRC := fun xs μ Q => dIsO K xs μ Q ∨ ∃ x t y u b, xs = [x, y] ∧ tyD μ x = some t ∧ ClsD y u ∧ PySem.W.kitOne K (.type t) u = some b ∧ Q (.bl b) μ
theorem w_isVO {xs : List D} (h : dIsO K xs μ Q) : dIsV K xs μ Q := .inl h
theorem w_isVT {x y : D} {t : String} {u : Value} {b : Bool} (h1 : tyD μ x = some t) (h2 : ClsD y u) (h3 : PySem.W.kitOne K (.type t) u = some b) (q : Q (.bl b) μ) : dIsV K [x, y] μ Q := .inr ⟨x, t, y, u, b, rfl, h1, h2, h3, q⟩
theorem rc_isV [Jx] : RC K (rIsi K) (dIsV K) := fun xs μ Q2 q I H vs hA r Q k => by
  rcases q with q | ⟨x, t, y, u, b, rfl, h1, h2, h3, q⟩
  · exact rc_isO xs μ Q2 q I H vs hA r Q k
  · obtain ⟨v, w, rfl, e1, e2⟩ := r.two_inv
    exact ⟨v, w, .type t, u, b, rfl, h2.rel e2, tyD_ok hA e1 h1, h3, k _ _ _ _ _ q hA Kp.refl rfl⟩
theorem e_isV [Jx] {X : Cx} {a b : Expr} {p pos : Pos} {tl : TA} {tl2 : TA2} (K : PySem.W.Frag) (hK : X.K = K) (hg : Gl X "isinstance") (hm : X.mg "isinstance" = none) (ha : PA2 X [a, b] tl tl2) (hv : bootBuiltins "isinstance" = some (.builtin "isinstance") := by decide +kernel) (he : starEach [a, b] X.env = (false, eval a X.env) :: starEach [b] X.env := by rfl) (hpl : (backTo pos (starEach [b] X.env)).any (·.1) = false := by rfl) :
    PE2 X (.Call (.Name "isinstance" p) [a, b] [] pos) (tCB (rIsi X.K) tl) (dCB (dIsV K) tl2) := by
  subst hK
  exact e_cb call_isi rc_isV hg hm hv ha (he := he) (hpl := hpl)
end
/-! what is raised may be said of less memory -/
def XtC (W3 : XK2) : XK2 := fun C fs μ => ∃ μ', Sub μ' μ ∧ W3 C fs μ'
theorem XtC.same {W3 : XK2} {C : Addr} {fs : List (Str × D)} {μ : Mu} (q : W3 C fs μ) : XtC W3 C fs μ := ⟨μ, Sub.refl, q⟩
theorem Wl.cl [Jx] {X : Cx} {W3 : XK2} {W : WX} (hw : Wl X (fun _ => W3) W) : Wl X (fun _ => XtC W3) W :=
  ⟨hw.tk, fun ρ σ C fs I μ H dx hfs q a j S h hi r => by
    obtain ⟨μ', s, q⟩ := q
    exact hw.link ρ σ C fs I μ' H dx hfs q (a.less s) (Jx.step j (Kp.less s)) S h hi r⟩
/-! try, whose body's reading names the bound of the memory (a comprehension) -/
theorem pss_union [jx : Jx] {X : Cx} {body : List Stmt} {W2 : Env2 → XK2} {W : WX} {tJ : Jx → TS} {u : (Env2 → XK2) → TS2} (hw : Wl X W2 W) (h : ∀ [Jx] (W2 : Env2 → XK2), Wl X W2 W → PSs2 X body (tJ ‹Jx›) (u W2)) : PSs2 X body (fun D σ H => ∃ j, tJ j D σ H) (u W2) := by
  refine ⟨⟨fun pins s σ H D I h1 => ?_⟩, fun D2 ρ μ q I σ H hA hS D g => ⟨jx, (h W2 hw).re D2 ρ μ q I σ H hA hS D g⟩⟩
  obtain ⟨j, h1⟩ := h1
  exact (@PSs2.ps j _ _ _ _ (@h j (fun _ _ _ _ => False) (@Wl.mk j _ _ _ (@Wl.tk jx _ _ _ hw) fun _ _ _ _ _ _ _ _ _ z => z.elim))).run pins s σ H D I h1
theorem s_tryJ [jx : Jx] {X : Cx} {x n : Str} {c : Value} {i : Nat} {body suite : List Stmt} {b₀ : Stmt} {np pos pos' : Pos} {tb : Jx → WX → TS} {tb2 : (Env2 → XK2) → TS2} {ts : Addr → Value → Option Addr → TS} {ts2 : Addr → Addr → List (Str × D) → TS2} {Wout : WX} {Wout2 : Env2 → XK2}
    (hN : X.N.Nodup) (hw : Wl X Wout2 Wout) (hc : Names X x c)
    (hb : ∀ [Jx] (W2 : Env2 → XK2) (W : WX) (pn : List (Addr × Obj)) (xe : Value → Shared → Prop), Wl (X.tr pn xe) W2 W → PSs2 (X.tr pn xe) body (tb ‹Jx› W) (tb2 W2))
    (hsu : ∀ [Jx] (a : Addr) (oe : Obj) (cls : Value) (d : Option Addr) (pn : List (Addr × Obj)) (C : Addr) (fs : List (Str × D)), Zc cls d oe → (∃ vs, oe.data = .fields vs) → Xs X.K cls d C fs → PSs2 (X.suite a ((a, oe) :: pn)) (b₀ :: suite) (ts a cls d) (ts2 a C fs))
    (hs : X.stack = X.env :: X.outer := by rfl) (hf : X.env.frame = some X.env.locals := by rfl) (hi : X.N[i]? = some n := by rfl) (hln : X.env.kindOf n = some .local := by rfl) :
    PS2 X (.Try body [.ExceptHandler (some (.Name x np)) (some n) (b₀ :: suite) pos'] [] [] pos) (fun D σ H => ∃ j, tb j (wAs X.K c i ts Wout D) D σ H) (dTry X.K c i tb2 ts2 Wout2) :=
  s_try (tb := fun W D σ H => ∃ j, tb j W D σ H) hN hw hc (fun W2 W pn xe hw => pss_union (u := tb2) hw fun W2 hw => hb W2 W pn xe hw) hsu hs hf hi hln
theorem s_tryNJ [jx : Jx] {X : Cx} {x : Str} {c : Value} {body suite : List Stmt} {b₀ : Stmt} {np pos pos' : Pos} {tb : Jx → WX → TS} {tb2 : (Env2 → XK2) → TS2} {ts : Addr → Value → Option Addr → TS} {ts2 : TS2} {Wout : WX} {Wout2 : Env2 → XK2}
    (hw : Wl X Wout2 Wout) (hc : Names X x c)
    (hb : ∀ [Jx] (W2 : Env2 → XK2) (W : WX) (pn : List (Addr × Obj)) (xe : Value → Shared → Prop), Wl (X.tr pn xe) W2 W → PSs2 (X.tr pn xe) body (tb ‹Jx› W) (tb2 W2))
    (hsu : ∀ [Jx] (a : Addr) (oe : Obj) (cls : Value) (d : Option Addr) (pn : List (Addr × Obj)), Zc cls d oe → (∃ vs, oe.data = .fields vs) → PSs2 (X.suite a ((a, oe) :: pn)) (b₀ :: suite) (ts a cls d) ts2)
    (hs : X.stack = X.env :: X.outer := by rfl) (hf : X.env.frame = some X.env.locals := by rfl) :
    PS2 X (.Try body [.ExceptHandler (some (.Name x np)) none (b₀ :: suite) pos'] [] [] pos) (fun D σ H => ∃ j, tb j (wOnly X.K c ts Wout D) D σ H) (dTryN X.K c tb2 ts2 Wout2) :=
  s_tryN (tb := fun W D σ H => ∃ j, tb j W D σ H) hw hc (fun W2 W pn xe hw => pss_union (u := tb2) hw fun W2 hw => hb W2 W pn xe hw) hsu hs hf
def kbB (t : String) (y : Str) (b : Bool) : Fb := fun K => decide (PySem.W.kitOne K (.type t) (.ref (He.ga K y)) = some b)
theorem kb_mk {K : PySem.W.Frag} {t : String} {y : Str} {b : Bool} (c : kbB t y b K = true) : PySem.W.kitOne K (.type t) (.ref (He.ga K y)) = some b := of_decide_eq_true c
end Y

set_option Elab.async false
set_option linter.all false
set_option maxRecDepth 100000
set_option maxHeartbeats 4000000
namespace Y
open PySem PySem.Spec PyProof.Rows L2
/-! o.f as a target; d.update(another dict) -/
section
variable {X : Cx} {K : PySem.W.Frag} {o e : Expr} {to te : TE} {to2 te2 : TE2} {tl : TA} {tl2 : TA2} {pos apos cpos : Pos} {ρ : Env2} {μ : Mu} {Q : DK} {k : Nat} {f : Str} {C : Addr}
def gFld (K : PySem.W.Frag) (to : TE) (f : Str) : TG := fun v σ H Q => to σ H fun x H2 => ∃ a C dx fs, x = .ref a ∧ H2 a = some (.ins C dx fs) ∧ Cls K C ∧ NoAttr K C f ∧ fs.length < 1000 ∧ Q σ (upd H2 a (.ins C dx (putF f v fs)))
theorem pg_fld (ho : PE X o to) : PG X (.Attribute o f pos) (gFld X.K to f) := by
  refine ⟨fun pins s σ H v u Q I r h => ?_⟩
  refine PySem.W.kas_attr (thn (ho.run pins s σ H _ I h) fun ov s2 ⟨x, H2, I2, rx, a, C, dx, fs, ex, ea, c, n, l, q2⟩ => ?_)
  subst ex
  obtain rfl : ov = Value.ref a := rx
  exact setattr_ok I2 ea c n l r fun s3 I3 => ⟨σ, _, I3, q2⟩
def gFldD (C : Addr) (f : Str) (to : TE2) : TG2 := fun v ρ μ Q => to ρ μ fun d μ2 => ∃ p fs, d = .adr p ∧ μ2 p = some (.ins C fs) ∧ fs.length < 1000 ∧ Q ρ (mup μ2 p (.ins C (setF f v fs)))
def gFldK (C : Addr) (f : Str) (v : D) (N : Mu → Prop) (d : D) (μ2 : Mu) : Prop := ∃ p fs, d = .adr p ∧ μ2 p = some (.ins C fs) ∧ fs.length < 1000 ∧ N (mup μ2 p (.ins C (setF f v fs)))
theorem w_gFld {v : D} {QE : Env2 → Mu → Prop} (h : to2 ρ μ (gFldK C f v (QE ρ))) : gFldD C f to2 v ρ μ QE := h
theorem w_gFldK {v : D} {N : Mu → Prop} {p : Addr} {fs fs' : List (Str × D)} (h : μ p = some (.ins C fs)) (e : setF f v fs = fs') (l : fs.length < 1000) (q : N (mup μ p (.ins C fs'))) : gFldK C f v N (.adr p) μ := ⟨p, fs, rfl, h, l, e ▸ q⟩
abbrev MonoE (to : TE) : Prop := ∀ σ H (Q Q' : VK), (∀ v H1, Q v H1 → Q' v H1) → to σ H Q → to σ H Q'
theorem monoV {i : Nat} : MonoE (tVar i) := fun σ H Q Q' h q => by
  obtain ⟨v, e, q⟩ := q
  exact ⟨v, e, h _ _ q⟩
theorem g_fld [Jx] (c : Cls X.K C) (n : NoAttr X.K C f) (ho : PE2 X o to to2) (m : MonoE to) : PG2 X (.Attribute o f pos) (gFld X.K to f) (gFldD C f to2) [] :=
  ⟨pg_fld ho.pe, fun d ρ μ Q2 q I σ H v hA hS r Q k => ho.re ρ μ _ q I σ H hA hS _ fun z μ2 vz I2 H2 q2 a2 k2 r2 => by
    obtain ⟨p, fs, rfl, hp, l, q2⟩ := q2
    cases (show vz = _ from r2)
    obtain ⟨_, ob, ho', dx, hfs, rfl, hr⟩ := a2.own p _ hp
    exact ⟨p, C, dx, hfs, rfl, ho', c, n, by rw [hr.len]; exact l, k _ _ _ _ _ q2 (a2.put hp ⟨dx, _, rfl, hr.put f (r.mono k2.ex)⟩) (hS.mono k2.ex) (k2.trans (Kp.put hp))⟩,
   fun v σ H Q Q' h q => m σ H _ _ (fun x H1 q => by
     obtain ⟨a, C, dx, fs, e1, e2, e3, e4, e5, q⟩ := q
     exact ⟨a, C, dx, fs, e1, e2, e3, e4, e5, h _ _ rfl (fun _ _ => rfl) q⟩) q⟩
/-! ### d.update(another dict) -/
abbrev rUpdD : V → List V → Hp → VK → Prop := fun x xs H Q => ∃ a b kvs more, x = .ref a ∧ xs = [.ref b] ∧ a ≠ b ∧ H a = some (.dK kvs) ∧ H b = some (.dK more) ∧ kvs.length + more.length ≤ sizeLine ∧ Q .non (upd H a (.dK (mergeK kvs more)))
theorem mt_updD : MtR X "dict.update" rUpdD := by
  intro pins s σ H x xs v us Q I rx rxs h
  obtain ⟨a, b, kvs, more, rfl, rfl, hne, ha, hb, hz, q⟩ := h
  cases rx
  cases rxs with
  | cons r rr =>
    cases rr
    cases (show _ = Value.ref b from r)
    obtain ⟨z, hd, vs, rel, dd⟩ := (show kvs.length ≤ sizeLine ∧ (a == sysModules) = false ∧ ∃ vs, KV kvs vs ∧ s.heap.DictOf (mixKind X.prog X.w) a vs from I.hok a _ ha)
    obtain ⟨z2, hd2, vs2, rel2, dd2⟩ := (show more.length ≤ sizeLine ∧ (b == sysModules) = false ∧ ∃ vs, KV more vs ∧ s.heap.DictOf (mixKind X.prog X.w) b vs from I.hok b _ hb)
    have l1 : kvs.length = vs.length := Paired.length rel
    have l2 : more.length = vs2.length := Paired.length rel2
    refine call_meetsIn PySem.F.slot_dict_update dd.typeIs PySem.F.entry_dict_update (PySem.F.args_dict_update_2 _ _) (meets_dict_update (mixKind X.prog X.w) a b hne hd2)
      ⟨vs, vs2, dd, dd2, by omega, fun h' dd' _ hs => ?_⟩
    obtain ⟨o', e1, _⟩ := id dd'
    have hm : (mergeK kvs more).length ≤ sizeLine := Nat.le_trans (length_mergeK more kvs) hz
    have I2 : Inv X pins σ (upd H a (.dK (mergeK kvs more))) { s with heap := h', toks := s.toks } :=
      d_write I (by rw [ha]; exact True.intro) hs (by obtain ⟨ob, es, ep, hq, _⟩ := dd'; exact ⟨ob, hq⟩) (dk_new hm hd (rel2.merge rel) dd')
    show EP X pins σ Q Value.none _
    exact ⟨.non, _, I2, rfl, q⟩
def dUpdD : DRM := fun x xs μ Q => ∃ a b kvs more, x = .adr a ∧ xs = [.adr b] ∧ a ≠ b ∧ μ a = some (.dk kvs) ∧ μ b = some (.dk more) ∧ kvs.length + more.length ≤ sizeLine ∧ Q .non (mup μ a (.dk (mergeD kvs more)))
theorem w_updD {a b : Addr} {kvs more : List (Key × D)} (hne : a ≠ b) (ha : μ a = some (.dk kvs)) (hb : μ b = some (.dk more)) (z : kvs.length + more.length ≤ sizeLine) (q : Q .non (mup μ a (.dk (mergeD kvs more)))) : dUpdD (.adr a) [.adr b] μ Q := ⟨a, b, kvs, more, rfl, rfl, hne, ha, hb, z, q⟩
theorem rm_updD [Jx] : RM K rUpdD dUpdD := fun x xs μ Q2 q I H v vs hA rx rs Q k => by
  obtain ⟨a, b, kvs, more, rfl, rfl, hne, ha, hb, z, q⟩ := q
  cases (show v = _ from rx)
  obtain ⟨w, rfl, rw'⟩ := rs.one_inv
  cases (show w = _ from rw')
  obtain ⟨h1, e1, r1⟩ := at_dk hA ha
  obtain ⟨h2, e2, r2⟩ := at_dk hA hb
  have l1 : kvs.length = h1.length := Paired.length r1
  have l2 : more.length = h2.length := Paired.length r2
  exact ⟨a, b, h1, h2, rfl, rfl, hne, e1, e2, by omega, k _ _ _ _ _ q (hA.put ha ⟨_, rfl, rpK_merge r2 r1⟩) (Kp.put ha) rfl⟩
def dBMd (r : DRM) (to : TE2) (t : TA2) : TE2 := fun ρ μ Q => to ρ μ fun x μ1 => (∃ a kvs, x = .adr a ∧ μ1 a = some (.dk kvs)) ∧ t ρ μ1 fun xs μ2 => r x xs μ2 Q
def dBMdK (N : Prop) (x : D) (μ1 : Mu) : Prop := (∃ a kvs, x = .adr a ∧ μ1 a = some (.dk kvs)) ∧ N
theorem w_bmd {r : DRM} (h : to2 ρ μ fun x μ1 => dBMdK (tl2 ρ μ1 fun xs μ2 => r x xs μ2 Q) x μ1) : dBMd r to2 tl2 ρ μ Q := h
theorem w_bmdK {N : Prop} {a : Addr} {kvs : List (Key × D)} (h : μ a = some (.dk kvs)) (q : N) : dBMdK N (.adr a) μ := ⟨⟨a, kvs, rfl, h⟩, q⟩
theorem e_update [Jx] (ho : PE2 X o to to2) (ha : PA2 X [e] tl tl2) (hbase : attributeBase o "update" X.env (eval o X.env) = eval o X.env := by rfl)
    (hfew : ((backTo cpos (starEach [e] X.env)).all (fun x => !x.1) && (backToKw cpos (keywordEach [] X.env)).all (fun x => x.1.isSome) && decide ([e].length + ([] : List Keyword).length + (if ([] : List Keyword).isEmpty then 0 else 1) < 30)) = true := by rfl)
    (hline : (apos.endLine == cpos.line) = true := by rfl) (hs : starEach [e] X.env = (false, eval e X.env) :: starEach [] X.env := by rfl) (hplain : (backTo cpos (starEach [] X.env)).any (·.1) = false := by rfl) :
    PE2 X (.Call (.Attribute o "update" apos) [e] [] cpos) (tBM X.K "dict" rUpdD to tl) (dBMd dUpdD to2 tl2) :=
  ⟨pe_bm PySem.F.plainAttrs_dict PySem.F.slot_dict_update PySem.F.type_dict_update mt_updD ho.pe ha.pa hbase hfew hline hs hplain, fun ρ μ Q2 q I σ H hA hS Q g => ho.re ρ μ _ q I σ H hA hS _ fun d μ1 v I1 H1 q1 a1 k1 r1 => by
    obtain ⟨⟨a, kvs, rfl, hk⟩, q1⟩ := q1
    cases (show v = _ from r1)
    obtain ⟨h1, e1, _⟩ := at_dk a1 hk
    exact ⟨.inr (.inr (.inl ⟨rfl, .inl ⟨h1, e1⟩⟩)), ha.re ρ μ1 _ q1 I1 σ H1 a1 (hS.mono k1.ex) _ fun ds μ2 vs I2 H2 q2 a2 k2 r2 => rm_updD _ ds μ2 Q2 q2 I2 H2 _ vs a2 rfl r2 Q (g.past (k1.trans k2))⟩⟩
end
/-! ### what is left behind in what is told (lists within tuples, lists within lists) -/
def ShA (ds : List D) (μ : Mu) (ds' : List D) (μ' : Mu) : Prop := ∀ [Jx], ∀ (K : PySem.W.Frag) (I H : Hp) (vs : List V), At K μ I H → RpA K I ds vs → ∃ I', At K μ' I' H ∧ Kp I μ H I' μ' H ∧ RpA K I' ds' vs
theorem ShD.refl {d : D} {μ : Mu} : ShD d μ d μ := fun K I H v a r => ⟨I, a, Kp.refl, r⟩
theorem ShD.frzA {p : Addr} {ds ds' : List D} {μ μ' : Mu} (hp : μ p = some (.lst ds)) (h : ShA ds (mdel μ p) ds' μ') : ShD (.adr p) μ (.lst ds') μ' := fun K I H v a r => by
  obtain ⟨hI, ob, ho, vs, rfl, hr⟩ := a.own p _ hp
  obtain ⟨I2, a2, k2, r2⟩ := h K _ H vs (a.frz hp ho) (hr.mono (Exx.new hI))
  exact ⟨I2, a2, (Kp.frz hp hI).trans k2, ⟨p, vs, r, k2.ex _ _ upd_same, r2⟩⟩
theorem ShA.refl {ds : List D} {μ : Mu} : ShA ds μ ds μ := fun K I H v a r => ⟨I, a, Kp.refl, r⟩
theorem ShD.frz {p : Addr} {ds : List D} {μ : Mu} (hp : μ p = some (.lst ds)) : ShD (.adr p) μ (.lst ds) (mdel μ p) := ShD.frzA hp ShA.refl
theorem ShA.cons {d d' : D} {ds ds' : List D} {μ μ1 μ2 : Mu} (h : ShD d μ d' μ1) (g : ShA ds μ1 ds' μ2) : ShA (d :: ds) μ (d' :: ds') μ2 := fun K I H vs a r => by
  obtain ⟨v, us, rfl, r1, r2⟩ := r
  obtain ⟨I1, a1, k1, r1⟩ := h K I H v a r1
  obtain ⟨I2, a2, k2, r2⟩ := g K I1 H us a1 (r2.mono k1.ex)
  exact ⟨I2, a2, k1.trans k2, ⟨v, us, rfl, r1.mono k2.ex, r2⟩⟩
theorem ShA.keep {d : D} {ds ds' : List D} {μ μ2 : Mu} (g : ShA ds μ ds' μ2) : ShA (d :: ds) μ (d :: ds') μ2 := ShA.cons ShD.refl g
theorem ShD.tup {ds ds' : List D} {μ μ' : Mu} (h : ShA ds μ ds' μ') : ShD (.tup ds) μ (.tup ds') μ' := fun K I H v a r => by
  obtain ⟨p, vs, rfl, h1, r⟩ := r
  obtain ⟨I2, a2, k2, r2⟩ := h K I H vs a r
  exact ⟨I2, a2, k2, ⟨p, vs, rfl, k2.ex.sqt h1, r2⟩⟩
theorem ShD.less {d d' : D} {μ μ' μ'' : Mu} (s : Sub μ'' μ') (h : ShD d μ d' μ') : ShD d μ d' μ'' := fun K I H v a r => by
  obtain ⟨I2, a2, k2, r2⟩ := h K I H v a r
  exact ⟨I2, a2.less s, k2.trans (Kp.less s), r2⟩
theorem RtC.sh {Q : DK} {d d' : D} {μ μ' μ'' : Mu} (h : ShD d μ d' μ') (s : Sub μ'' μ') (q : Q d' μ'') : RtC Q d μ := ⟨d', μ'', h.less s, q⟩
section
variable {to2 : TE2} {tl2 : TA2} {ρ : Env2} {μ : Mu} {Q : DK} {f : Str} {C : Addr}
instance st_gFld {v : D} {QE : Env2 → Mu → Prop} : Step (gFldD C f to2 v ρ μ QE) (to2 ρ μ (gFldK C f v (QE ρ))) := ⟨fun q => q⟩
instance st_bmd {r : DRM} : Step (dBMd r to2 tl2 ρ μ Q) (to2 ρ μ fun x μ1 => dBMdK (tl2 ρ μ1 fun xs μ2 => r x xs μ2 Q) x μ1) := ⟨fun q => q⟩
instance hd_gFldK {a0} {a1} {a2} {a3} {a4} {a5} : HdC (gFldK a0 a1 a2 a3 a4 a5) := ⟨fun q => q⟩
instance hd_bmdK {a0} {a1} {a2} : HdC (dBMdK a0 a1 a2) := ⟨fun q => q⟩
end
def dNevE : TE2 := fun _ _ _ => False
/-- an expression that is never come to -/
theorem e_nev [Jx] {X : Cx} {e : Expr} : PE2 X e (fun _ _ _ => False) dNevE := ⟨⟨fun pins s σ H Q I h => h.elim⟩, fun ρ μ Q2 q => q.elim⟩
end Y

set_option Elab.async false
set_option linter.all false
set_option maxRecDepth 100000
set_option maxHeartbeats 4000000
namespace Y
open PySem PySem.Spec PyProof.Rows L2
/-! zip of two tuples -/
section
variable {X : Cx} {K : PySem.W.Frag} {a b e : Expr} {tl : TA} {tl2 : TA2} {pos p tpos : Pos} {ρ : Env2} {μ : Mu}
theorem itd_TT [Jx] {I : Hp} {p q : Addr} {ds es : List D} {vs ws : List V} (h1 : SqT K I p vs) (h2 : RpA K I ds vs) (h3 : SqT K I q ws) (h4 : RpA K I es ws) : ItD K (ItzB true true K p q) (prsD ds es) (fun _ => True) I := fun i I' μ' H' e a g => by
  have h1 := (show Exx I' H' from a.sub).sqt (e.sqt h1)
  have h2 := h2.mono e
  have h3 := (show Exx I' H' from a.sub).sqt (e.sqt h3)
  have h4 := h4.mono e
  rw [prsD_len]
  refine ⟨fun hi => ?_, fun hi => ⟨vs, ws, h1, h3, by rw [h2.length, h4.length]; omega⟩⟩
  have hi1 : i < ds.length := by omega
  have hi2 : i < es.length := by omega
  obtain ⟨v, g1, g2⟩ := h2.get (List.getElem?_eq_getElem hi1)
  obtain ⟨w, g3, g4⟩ := h4.get (List.getElem?_eq_getElem hi2)
  refine ⟨⟨vs, ws, v, w, h1, h3, g1, g3⟩, fun u H2 yl => ?_⟩
  obtain ⟨T, a1, a2, rfl, hT, rfl, y1, y2⟩ := yl
  have e1 := y1 vs h1
  rw [g1] at e1; cases e1
  have e2 := y2 ws h3
  rw [g3] at e2; cases e2
  obtain ⟨I2, b1, b2, b3⟩ := pair_new a hT g2 g4
  exact ⟨_, I2, prsD_get (List.getElem?_eq_getElem hi1) (List.getElem?_eq_getElem hi2), b1, b2, b3⟩
def jZTTK (R : JR) : List D → Mu → Prop := fun xs μ1 => ∃ ds es, xs = [.tup ds, .tup es] ∧ R (prsD ds es) (fun _ => True) μ1
def jZTT (ta : TA2) : TI2 := fun ρ μ R => ta ρ μ (jZTTK R)
theorem w_jZTTK {R : JR} {ds es : List D} (q : R (prsD ds es) (fun _ => True) μ) : jZTTK R [.tup ds, .tup es] μ := ⟨ds, es, rfl, q⟩
theorem j_zTT [Jx] {elts : List Expr} {kk : Nat} (hg : Gl X "zip") (hm : X.mg "zip" = none) (ha : PA2 X [a, b] tl tl2) (hs : starEach [a, b] X.env = (false, eval a X.env) :: starEach [b] X.env := by rfl) (hpl : (backTo pos (starEach [b] X.env)).any (·.1) = false := by rfl) :
    PI2 X (.Tuple elts kk tpos) (.Call (.Name "zip" p) [a, b] [] pos) (iZipB true true X.K tl) (jZTT tl2) :=
  ⟨pi_zipB true true hg hm ha.pa hs hpl, fun ρ μ R2 q I σ H hA hS R k => ha.re ρ μ _ q I σ H hA hS _ fun xs μ1 vs I1 H1 q1 a1 k1 r1 => by
    obtain ⟨ds, es, rfl, q1⟩ := q1
    obtain ⟨v, w, rfl, e1, e2⟩ := r1.two_inv
    obtain ⟨p1, us, rfl, g1, g2⟩ := e1
    obtain ⟨p2, ws, rfl, g3, g4⟩ := e2
    exact ⟨p1, p2, us, ws, rfl, (show Exx I1 H1 from a1.sub).sqt g1, (show Exx I1 H1 from a1.sub).sqt g3, k _ _ _ _ _ _ q1 a1 k1 (itd_TT g1 g2 g3 g4)⟩⟩
instance st_jZTT {R : JR} : Step (jZTT tl2 ρ μ R) (tl2 ρ μ (jZTTK R)) := ⟨fun q => q⟩
instance st_jZTTK {R : JR} {ds es : List D} : Step (jZTTK R [.tup ds, .tup es] μ) (R (prsD ds es) (fun _ => True) μ) := ⟨fun q => w_jZTTK q⟩
end
end Y

set_option Elab.async false
set_option linter.all false
set_option maxRecDepth 100000
set_option maxHeartbeats 4000000
namespace Y
open PySem PySem.Spec PyProof.Rows L2
/-! d.get(k) -/
section
variable {X : Cx} {o e : Expr} {to te : TE} {to2 te2 : TE2} {apos cpos : Pos} {ρ : Env2} {μ : Mu} {Q : DK} {k : Nat}
def dGet1 (to te : TE2) : TE2 := fun ρ μ Q => to ρ μ fun x μ1 => (∃ a kvs, x = .adr a ∧ μ1 a = some (.dk kvs)) ∧ te ρ μ1 fun y μ2 => ∃ a kvs k, x = .adr a ∧ μ2 a = some (.dk kvs) ∧ y = kD k ∧ Q ((valD kvs k).getD .non) μ2
def dGet1L (x : D) (Q : DK) : DK := fun y μ2 => ∃ a kvs k, x = .adr a ∧ μ2 a = some (.dk kvs) ∧ y = kD k ∧ Q ((valD kvs k).getD .non) μ2
theorem w_get1 (h : to2 ρ μ fun x μ1 => dGet2K (te2 ρ μ1 (dGet1L x Q)) x μ1) : dGet1 to2 te2 ρ μ Q := h
theorem w_get1L {a : Addr} {kvs : List (Key × D)} {k : Key} (h : μ a = some (.dk kvs)) (q : Q ((valD kvs k).getD .non) μ) : dGet1L (.adr a) Q (kD k) μ := ⟨a, kvs, k, rfl, h, rfl, q⟩
theorem w_get1S {a : Addr} {kvs : List (Key × D)} {z : Str} (h : μ a = some (.dk kvs)) (q : Q ((valD kvs (.inr z)).getD .non) μ) : dGet1L (.adr a) Q (.str z) μ := ⟨a, kvs, .inr z, rfl, h, rfl, q⟩
theorem e_get1 [Jx] (hr : Room k X.A) (ho : PE2 X o to to2) (he : PE2 X e te te2) (hbase : attributeBase o "get" X.env (eval o X.env) = eval o X.env := by rfl)
    (hfew : ((backTo cpos (starEach [e] X.env)).all (fun x => !x.1) && (backToKw cpos (keywordEach [] X.env)).all (fun x => x.1.isSome) && decide (([e] : List Expr).length + ([] : List Keyword).length + (if ([] : List Keyword).isEmpty then 0 else 1) < 30)) = true := by rfl)
    (hline : (apos.endLine == cpos.line) = true := by rfl) (hs : backTo cpos (starEach [e] X.env) = [(false, eval e X.env)] := by rfl) :
    PE2 X (.Call (.Attribute o "get" apos) [e] [] cpos) (tDGet1 to te) (dGet1 to2 te2) :=
  ⟨pe_dget1 (Nat.lt_of_le_of_lt (Nat.add_le_add_left (by decide) _) hr.units) ho.pe he.pe ⟨hbase, hfew, hline, hs⟩, fun ρ μ Q2 q I σ H hA hS Q g => ho.re ρ μ _ q I σ H hA hS _ fun x μ1 vx I1 H1 q1 a1 k1 r1 => by
    obtain ⟨⟨p0, kvs0, rfl, h0⟩, q1⟩ := q1
    obtain ⟨hvs0, g0, _⟩ := at_dk a1 h0
    cases (show vx = _ from r1)
    refine ⟨p0, rfl, .inl ⟨hvs0, .inl g0⟩, he.re ρ μ1 _ q1 I1 σ H1 a1 (hS.mono k1.ex) _ fun y μ2 vy I2 H2 q2 a2 k2 r2 => ?_⟩
    obtain ⟨p1, kvs, ky, e1, h, rfl, q3⟩ := q2
    cases e1
    obtain ⟨hvs, h1, r⟩ := at_dk a2 h
    have hv := valD_rp (k := ky) r
    cases rp_kD r2
    refine ⟨valV hvs ky, DGet.k h1, ?_⟩
    cases e : valD kvs ky with
    | none =>
      rw [e] at hv q3
      rw [show valV hvs ky = none from hv]
      exact g _ _ _ _ _ q3 a2 (k1.trans k2) rfl
    | some v0 =>
      rw [e] at hv q3
      obtain ⟨v, e1, rv⟩ := hv
      rw [e1]
      exact g _ _ _ _ _ q3 a2 (k1.trans k2) rv⟩
instance st_get1 : Step (dGet1 to2 te2 ρ μ Q) (to2 ρ μ fun x μ1 => dGet2K (te2 ρ μ1 (dGet1L x Q)) x μ1) := ⟨fun q => q⟩
variable {K : PySem.W.Frag} {tl : TA} {tl2 : TA2}
/-! tuple(x), of which it is known that nothing hangs on it; t.index(x), such a tuple of texts -/
abbrev rvTun (K : PySem.W.Frag) : List V → Hp → VK → Prop := fun xs H Q => ∃ p ys, xs = [.ref p] ∧ SqL K H p ys ∧ ∀ l o, H l = none → o.dict = none → Q (.ref l) (upd H l (.frz o (.tup ys)))
theorem call_tun {X : Cx} : CallR X (.type "tuple") (rvTun X.K) := by
  intro pins s σ H xs us Q I r h
  obtain ⟨p, ys, rfl, hq, q⟩ := h
  obtain ⟨u, rfl, rx⟩ := vals1 r
  cases rx
  obtain ⟨its, r', pl, hz⟩ := I.list hq
  have hlen := r'.length
  refine call_tuple_list pl.isList (fun h' kp => ?_) (by simp only [List.size_toArray] <;> omega)
  have I1 : Inv X pins σ H { s with heap := h' } := I.kept (t' := s.toks) kp
  have I2 : Inv X pins σ (upd H h'.objs.size (.frz { cls := .type "tuple", data := .seq its.toArray } (.tup ys))) { s with heap := h'.push { cls := .type "tuple", data := .seq its.toArray } } :=
    I1.laid (t' := s.toks) (fun b o e => Heap.get?_push_of_some _ e) (Nat.le_refl _) (show ObjOk X.prog X.w _ _ _ (.frz _ (.tup ys)) from ⟨Heap.get?_push_size _ rfl, hz, its, r', IsTup.new _ _⟩)
  exact ⟨.ref h'.objs.size, _, I2, rfl, q _ _ (I1.hok.fresh (Nat.le_refl _)) rfl⟩
def dTun : DRC := fun xs μ Q => ∃ x ds, xs = [x] ∧ asL μ x = some ds ∧ Q (.tun ds) μ
theorem w_tun {x : D} {ds : List D} (h : asL μ x = some ds) (q : Q (.tun ds) μ) : dTun [x] μ Q := ⟨x, ds, rfl, h, q⟩
instance st_tun {ds : List D} : Step (dTun [.lst ds] μ Q) (Q (.tun ds) μ) := ⟨fun q => w_tun rfl q⟩
theorem e_tun [Jx] {p pos : Pos} (hg : Gl X "tuple") (hm : X.mg "tuple" = none) (ha : PA2 X [e] tl tl2) (hv : bootBuiltins "tuple" = some (.type "tuple") := by decide +kernel) (he : starEach [e] X.env = (false, eval e X.env) :: starEach [] X.env := by rfl) : PE2 X (.Call (.Name "tuple" p) [e] [] pos) (tCB (rvTun X.K) tl) (dCB dTun tl2) :=
  e_cty call_tun (fun xs μ Q2 q I H vs hA r Q k => by
    obtain ⟨x, ds, rfl, h, q⟩ := q
    obtain ⟨v, rfl, e⟩ := r.one_inv
    obtain ⟨p, ws, rfl, h1, h2⟩ := asL_at hA e h
    exact ⟨p, ws, rfl, SqL.of h1, fun l o hl ho => k _ _ _ _ _ q (hA.laid hl) (Kp.laid hl (hA.noI hl)) ⟨l, ws, rfl, ⟨o, upd_same, ho⟩, h2.mono (Exx.new (hA.noI hl))⟩⟩) hg hm hv ha (he := he)
instance st_lenU {ds : List D} : Step (dLen [.tun ds] μ Q) (Q (.int ds.length) μ) := ⟨fun q => .inr (.inr ⟨_, _, rfl, rfl, q⟩)⟩
def rIndexU : V → List V → Hp → VK → Prop := fun x xs H Q => ∃ (a : Addr) (o : Obj) (ys : List Str) (k : Str), x = .ref a ∧ xs = [.str k] ∧ H a = some (.frz o (.tup (ys.map V.str))) ∧ o.dict = none ∧ k ∈ ys ∧ Q (.int (ys.idxOf k : Nat)) H
def tIxU (to : TE) (t : TA) : TE := fun σ H Q => to σ H fun x H1 => (∃ (a : Addr) (o : Obj) (vs : List V), x = .ref a ∧ H1 a = some (.frz o (.tup vs)) ∧ o.dict = none) ∧ t σ H1 fun xs H2 => rIndexU x xs H2 Q
theorem pe_indexU (ho : PE X o to) (ha : PA X [e] tl) (hbase : attributeBase o "index" X.env (eval o X.env) = eval o X.env := by rfl)
    (hfew : ((backTo cpos (starEach [e] X.env)).all (fun x => !x.1) && (backToKw cpos (keywordEach [] X.env)).all (fun x => x.1.isSome) && decide ([e].length + ([] : List Keyword).length + (if ([] : List Keyword).isEmpty then 0 else 1) < 30)) = true := by rfl)
    (hline : (apos.endLine == cpos.line) = true := by rfl) (hs : starEach [e] X.env = (false, eval e X.env) :: starEach [] X.env := by rfl) (hplain : (backTo cpos (starEach [] X.env)).any (·.1) = false := by rfl) :
    PE X (.Call (.Attribute o "index" apos) [e] [] cpos) (tIxU to tl) := by
  refine ⟨fun pins s σ H Q I h => ?_⟩
  refine wpAny_Call_method_late hbase hfew hline rfl (thn (ho.run pins s σ H _ I h) fun v s1 ⟨x, H1, I1, r1, ⟨a, ob, vs0, ex, hx, hd⟩, q1⟩ => ?_)
  subst ex
  obtain rfl : v = Value.ref a := r1
  obtain ⟨hg, hz, its, rv, ht⟩ := I1.hok a _ hx
  refine ⟨"tuple", "tuple.index", PySem.F.plainAttrs_tuple, PySem.F.slot_tuple_index, PySem.F.type_tuple_index, ht.typeIs, fun b eb => ?_, ?_⟩
  · cases eb
    exact ⟨ob, hg, hd⟩
  have hA := ha.run cpos pins s1 σ H1 _ I1 q1
  rw [hs] at hA ⊢
  refine Calls.callWith_builtin (by show (false || (backTo cpos (starEach [] X.env)).any (·.1)) = false; rw [hplain] <;> rfl) (Calls.evalArgs_plain ?_)
  refine thn hA fun us s2 ⟨vs, H2, I2, r2, a2, o2, ys, k2, e1, e2, h2, hd2, hk, q⟩ => ?_
  cases e1
  subst e2
  obtain ⟨u, rfl, tk, rfl⟩ := vals1 r2
  obtain ⟨_, _, its2, rv2, ht2⟩ := I2.hok a _ h2
  exact PySem.SeqAt.tuple_index_strs (show s2.heap.IsTuple a its2.toArray from ht2) rv2.strs hk ⟨.int (ys.idxOf k2 : Nat), H2, I2.tok _, ⟨_, rfl⟩, q⟩
def dIndexU : DRM := fun x xs μ Q => ∃ (ys : List Str) (z : Str), x = .tun (ys.map D.str) ∧ xs = [.str z] ∧ z ∈ ys ∧ Q (.int (ys.idxOf z : Nat)) μ
theorem w_indexU {ys : List Str} {z : Str} (h : z ∈ ys) (q : Q (.int (ys.idxOf z : Nat)) μ) : dIndexU (.tun (ys.map D.str)) [.str z] μ Q := ⟨ys, z, rfl, rfl, h, q⟩
def dIxU (to : TE2) (t : TA2) : TE2 := fun ρ μ Q => to ρ μ fun x μ1 => (∃ ds, x = .tun ds) ∧ t ρ μ1 fun xs μ2 => dIndexU x xs μ2 Q
def dIxUK (x : D) (N : Prop) : Prop := (∃ ds, x = .tun ds) ∧ N
instance st_ixu : Step (dIxU to2 tl2 ρ μ Q) (to2 ρ μ fun x μ1 => dIxUK x (tl2 ρ μ1 fun xs μ2 => dIndexU x xs μ2 Q)) := ⟨fun q => q⟩
instance st_ixuK {ds : List D} {N : Prop} : Step (dIxUK (.tun ds) N) N := ⟨fun q => ⟨⟨ds, rfl⟩, q⟩⟩
theorem e_indexU [Jx] (ho : PE2 X o to to2) (ha : PA2 X [e] tl tl2) (hbase : attributeBase o "index" X.env (eval o X.env) = eval o X.env := by rfl)
    (hfew : ((backTo cpos (starEach [e] X.env)).all (fun x => !x.1) && (backToKw cpos (keywordEach [] X.env)).all (fun x => x.1.isSome) && decide ([e].length + ([] : List Keyword).length + (if ([] : List Keyword).isEmpty then 0 else 1) < 30)) = true := by rfl)
    (hline : (apos.endLine == cpos.line) = true := by rfl) (hs : starEach [e] X.env = (false, eval e X.env) :: starEach [] X.env := by rfl) (hplain : (backTo cpos (starEach [] X.env)).any (·.1) = false := by rfl) : PE2 X (.Call (.Attribute o "index" apos) [e] [] cpos) (tIxU to tl) (dIxU to2 tl2) :=
  ⟨pe_indexU ho.pe ha.pa hbase hfew hline hs hplain, fun ρ μ Q2 q I σ H hA hS Q g => ho.re ρ μ _ q I σ H hA hS _ fun d μ1 v I1 H1 q1 a1 k1 r1 => by
    obtain ⟨⟨ds, rfl⟩, q1⟩ := q1
    obtain ⟨p, ws, rfl, ⟨ob, h1, hd⟩, h2⟩ := r1
    refine ⟨⟨p, ob, ws, rfl, a1.sub _ _ h1, hd⟩, ha.re ρ μ1 _ q1 I1 σ H1 a1 (hS.mono k1.ex) _ fun ds2 μ2 vs I2 H2 q2 a2 k2 r2 => ?_⟩
    obtain ⟨ys, z, e1, rfl, hk, q2⟩ := q2
    cases e1
    cases h2.strs_inv
    obtain ⟨w, rfl, rw'⟩ := r2.one_inv
    cases (show w = _ from rw')
    exact ⟨p, ob, ys, z, rfl, rfl, a2.sub _ _ (k2.ex _ _ h1), hd, hk, g _ _ _ _ _ q2 a2 (k1.trans k2) rfl⟩⟩
end
end Y

set_option Elab.async false
set_option linter.all false
set_option maxRecDepth 100000
set_option maxHeartbeats 4000000
namespace Y
open PySem PySem.Spec PyProof.Rows L2
/-! defs of the module whose last parameter has None as its default; every parameter is given -/
structure TxD (K : PySem.W.Frag) (mg : Str → Option Value) (x : Str) (st : Stmt) (ps : List Str) : Prop where
  of : ∃ f fd, FunD K x x (defArgs st) (defBody st) (defScope st) [.non] [] f fd ∧ mg x = some (.ref f) ∧ Binds K fd ps []
section
variable {K : PySem.W.Frag} {x : Str} {ps : List Str} {sp : Sp2} {k : Nat}
theorem TxD.ok {P : Program} {w : World} {mg : Str → Option Value} {base : Heap} {st : Stmt} {N : List Str} (T : TxD K mg x st ps) (S : FnScope N ps (defScope st)) (len : ∀ ds μ Q E, sp ds μ Q E → ds.length = ps.length)
    (hb : ∀ [Jx] (f : Addr) (cdv : Value) (A : Around) (outer : List Env) (s : Shared) (H : Hp) (E : XK), Room k (A.deeper (envOfC x (defScope st) s.heap.objs.size f cdv)) →
      ∃ ts t, PSs2 (cxOf CX0 P w K mg base N x (defScope st) f cdv A outer s H E).nox (defBody st) ts t ∧ ∀ ds μ Q E2, sp ds μ Q E2 → t { nx := fun _ μ' => RtC Q .non μ', rt := RtC Q } (start2 N ds) μ) : Df P w K mg base x (k + 1) ps sp := by
  obtain ⟨f, fd, F, hm, hbd⟩ := T.of
  refine ⟨f, fd, F.ok S (fun vs H Q E h => ?_) (fun cdv A outer s H vs Q E hr h => ?_), hm, F.kp, hbd, ?_⟩
  · obtain ⟨ds, μ, I, Q2, E2, _, r, hsp, _⟩ := h
    rw [r.length]; exact len _ _ _ _ hsp
  · obtain ⟨ds, μ, I, Q2, E2, hA, r, hsp, g, gx⟩ := h
    letI := Jx.triv
    obtain ⟨ts, t, ht, hq⟩ := hb f cdv A outer s H E hr
    refine ⟨ts, ht.ps.nox, ht.re _ _ μ (hq ds μ Q2 E2 hsp) I _ H hA.triv (slots_start r) _ (@GoS.mk Jx.triv _ _ _ _ _ _ ?_ ?_ (fun _ _ _ _ _ h => h.elim) (fun _ _ _ _ _ h => h.elim))⟩
    · rintro ρ' μ' σ' I' H' ⟨d', μ2, sh, q⟩ a' s' k'
      obtain ⟨I2, a2, k2, r2⟩ := @sh Jx.triv K I' H' .non a' rfl
      exact g d' μ2 _ I2 H' q (@At.toAt0 Jx.triv _ _ _ _ a2) (k'.trans k2) r2
    · rintro d μ' v I' H' ⟨d', μ2, sh, q⟩ a' k' r'
      obtain ⟨I2, a2, k2, r2⟩ := @sh Jx.triv K I' H' v a' r'
      exact g d' μ2 _ I2 H' q (@At.toAt0 Jx.triv _ _ _ _ a2) (k'.trans k2) r2
  · obtain ⟨oc, od, dV, kV, doc, pm, an, cdv, ct, osl, rfl, lk, _⟩ := F.ex
    exact ⟨oc, od, osl, lk⟩
end
/-! the end: one run that looks at such defs too -/
def eraseD : He.FnV → He.FnV := Option.map fun t => (t.1, t.2.1, t.2.2.1, t.2.2.2.1, t.2.2.2.2.1, t.2.2.2.2.2.1, t.2.2.2.2.2.2.1, .none, t.2.2.2.2.2.2.2.2)
/-- its default: None alone -/
def dnB (p : Str × Option Str) : Fb := fun K => match K.lookup (He.fAd K p) with
  | some ⟨_, _, .func fd, _⟩ => (match fd.defaults with
    | .ref T => (match K.lookup T with
      | some ⟨_, _, .seq its _, _⟩ => (match its.toList with
        | [.none] => true
        | _ => false)
      | _ => false)
    | _ => false)
  | _ => false
abbrev AlZ : Type := AlY × Bool × List He.FnV
def obsZ (bs : List Fb) (fn : List He.FnD) (ts : List He.Tab) (fx : List He.FnD) (K : PySem.W.Frag) : AlZ := (obsY bs fn ts K, (fx.all fun d => defB K d && dnB d.at_ K), fx.map fun d => eraseD (He.fnObs K d.at_))
def valZ (fn : List He.FnD) (ts : List He.Tab) (fx : List He.FnD) (w : World) : AlZ := (valY fn ts w, true, fx.map He.FnD.val)
def SaysZ (bs : List Fb) (fn : List He.FnD) (ts : List He.Tab) (fx : List He.FnD) (w : World) (K : PySem.W.Frag) : Prop := obsZ bs fn ts fx K = valZ fn ts fx w
def refsZ (o : Obj) : List Addr := match o.data with
  | .dict es _ => es.toList.flatMap fun e => He.refV e.val
  | .func fd => He.refV fd.code ++ He.refV fd.defaults
  | .cls cd => [cd.ns]
  | _ => []
def lvZ (g : Addr → Option Obj) : Nat → List Addr → List Addr
  | 0, l => l
  | n + 1, l => l ++ lvZ g n (l.flatMap fun a => match g a with
    | some o => refsZ o
    | none => [])
def frZ (g : Addr → Option Obj) (n : Nat) : PySem.W.Frag := He.frG g (PySem.cStatics :: lvZ g n [mainGlobals])
def obsZG (n : Nat) (bs : List Fb) (fn : List He.FnD) (ts : List He.Tab) (fx : List He.FnD) (g : Addr → Option Obj) : AlZ := obsZ bs fn ts fx (frZ g n)
def hookZ (n : Nat) (bs : List Fb) (fn : List He.FnD) (ts : List He.Tab) (fx : List He.FnD) : PySem.W.Hook where
  α := AlZ
  obs := fun s => obsZG n bs fn ts fx s.heap.get?
  val := fun w => valZ fn ts fx w
  says := fun w h => ∃ K : PySem.W.Frag, K.In h ∧ SaysZ bs fn ts fx w K
  of := fun _ _ e => ⟨_, He.frG_in, e⟩
  keeps := fun _ _ _ ⟨K, hK, c⟩ k => ⟨K, PySem.W.Frag.In.keeps hK k, c⟩
theorem obsZG_eq {n : Nat} {bs : List Fb} {fn : List He.FnD} {ts : List He.Tab} {fx : List He.FnD} {g : Addr → Option Obj} {s : Shared} (h : ∀ a, g a = s.heap.get? a) : obsZG n bs fn ts fx g = (hookZ n bs fn ts fx).obs s := by
  have e : g = s.heap.get? := funext h
  rw [e] <;> rfl
section
variable {bs : List Fb} {fn : List He.FnD} {ts : List He.Tab} {fx : List He.FnD} {w : World} {K : PySem.W.Frag}
theorem SaysZ.y (c : SaysZ bs fn ts fx w K) : SaysY bs fn ts w K := congrArg (fun z : AlZ => z.1) c
theorem fnX_ok {d : He.FnD} (e : eraseD (He.fnObs K d.at_) = d.val) (c : (He.Fa.code d.at_ d.qual).ok K = true) (n : dnB d.at_ K = true) (kp : PySem.W.keepIn K (.ref (He.fAd K d.at_)) = true) :
    ∃ fd, FunD K d.name d.qual d.params d.body d.scope [.non] [] (He.fAd K d.at_) fd := by
  have c2 : (match K.lookup (He.fAd K d.at_) with
    | some ⟨_, _, .func fd, _⟩ => PySem.W.codeIn K fd.code d.qual
    | _ => false) = true := c
  unfold He.fnObs at e
  unfold dnB at n
  cases q : K.lookup (He.fAd K d.at_) with
  | none =>
    rw [q] at c2
    cases c2
  | some o =>
    obtain ⟨oc, od, dt, osl⟩ := o
    rw [q] at c2 e n
    cases dt with
    | func fd =>
      obtain ⟨n1, n2, n3, n4, n5, n6, n7, n8, n9, n10, n11, n12, n13, n14, n15⟩ := fd
      have e2 : (some (n1, n2, n3, n4, n5, n6, n7, .none, n15) : He.FnV) = some (d.name, d.qual, d.params, .stmts d.body, d.scope, mainGlobals, [], .none, builtinsNs) := e
      simp only [Option.some.injEq, Prod.mk.injEq] at e2
      obtain ⟨h1, h2, h3, h4, h5, h6, h7, _, h9⟩ := e2
      subst h1 h2 h3 h4 h5 h6 h7 h9
      refine ⟨_, ⟨oc, od, n8, n9, n10, n11, n12, n13, n14, osl, rfl, q, c2, ?_, .inl rfl⟩, kp⟩
      dsimp only at n
      split at n
      · rename_i T
        split at n
        · rename_i c' d' its m sl' hT
          split at n
          · rename_i hits
            exact .inr ⟨List.cons_ne_nil _ _, T, _, [.none], m, rfl, hT, by rw [← hits, Array.toArray_toList], .cons rfl .nil⟩
          · cases n
        · cases n
      · cases n
    | _ => cases c2
theorem SaysZ.dx (c : SaysZ bs fn ts fx w K) (i : Nat) {at_ : Str × Option Str} {name qual : Str} {st : Stmt} (h : fx[i]? = some (fnD at_ name qual st)) : ∃ fd, FunD K name qual (defArgs st) (defBody st) (defScope st) [.non] [] (He.fAd K at_) fd := by
  have c1 : (fx.all fun d => defB K d && dnB d.at_ K) = true := congrArg (fun z : AlZ => z.2.1) c
  obtain ⟨c2, n⟩ := He.ba (List.all_eq_true.mp c1 _ (List.mem_of_getElem? h))
  obtain ⟨c2, kp⟩ := He.ba (show ((He.Fa.code (fnD at_ name qual st).at_ (fnD at_ name qual st).qual).ok K && PySem.W.keepIn K (.ref (He.fAd K (fnD at_ name qual st).at_))) = true from c2)
  have e : fx.map (fun d => eraseD (He.fnObs K d.at_)) = fx.map He.FnD.val := congrArg (fun z : AlZ => z.2.2) c
  have e2 : (fx.map fun d => eraseD (He.fnObs K d.at_))[i]? = (fx.map He.FnD.val)[i]? := by rw [e]
  rw [List.getElem?_map, List.getElem?_map, h] at e2
  exact fnX_ok (d := fnD at_ name qual st) (Option.some.inj e2) c2 n kp
end
theorem tx_mkD {K : PySem.W.Frag} {h : Heap} {mg : Str → Option Value} (X : K.In h) (G : h.Ns mainGlobals mg) {x : Str} {st : Stmt} {ps : List Str} (F : ∃ fd, FunD K x x (defArgs st) (defBody st) (defScope st) [.non] [] (He.fAd K (x, none)) fd) (c : glB x K = true)
    (b : ∀ (T : Addr) (kV doc pm : Value) (an : Option Addr) (cdv ct : Value) (us its : List Value), us.length = ps.length → its.length = 1 →
      ∃ k, bindArgs (PySem.W.fnOf x x (defArgs st) (defBody st) (defScope st) (.ref T) kV doc pm an cdv ct) ⟨us, []⟩ = seqItems? (.ref T) >>= k ∧ k (some its.toArray) = pure (ps.zip (us ++ its.drop 1))) : TxD K mg x st ps := by
  obtain ⟨fd, F⟩ := F
  obtain ⟨ds, hv, hb⟩ := F.binds1 (ps := ps) ps.length 1 (List.cons_ne_nil _ _) (by show ps.length + (1 - 1) = _; rfl) b
  cases hv
  exact ⟨_, fd, F, He.glo_ok X G c, hb⟩
end Y

set_option Elab.async false
set_option linter.all false
set_option maxRecDepth 100000
set_option maxHeartbeats 4000000
namespace Y
open PySem PySem.Spec PyProof.Rows L2
/-! methods that may raise -/
/-- a method that keeps a promise, and may raise -/
structure DmX (P : Program) (w : World) (K : PySem.W.Frag) (mg : Str → Option Value) (base : Heap) (C : Addr) (m : Str) (k : Nat) (ps : List Str) (sp : Sp2) : Prop where
  of : ∃ f fd, FnOk P w K mg base (L2.CX P w) k f fd ps (toSp K sp) ∧ Meth K C m f ∧ Binds K fd ps []
def tMethE (C : Addr) (m : Str) (sp : Sp) (E : L2.St → XK) (ta : TE) (t : TA) : TE := fun σ H Q => ta σ H fun x H1 => ∃ a dx fs, x = .ref a ∧ H1 a = some (.ins C dx fs) ∧ fs.lookup m = none ∧ t σ H1 fun vs H2 => sp (x :: vs) H2 Q (E σ)
section
variable {X : Cx} {CX : CXT} {k j : Nat} {f C : Addr} {fd : FuncData} {ps : List Str} {m : Str} {p pos apos : Pos} {e o : Expr} {es : List Expr} {ta : TE} {t : TA}
theorem pe_methE {sp : Sp} {E : L2.St → XK} {pl : Sem Bool} (he : PE X o ta) (c : Cls X.K C) (hm : Meth X.K C m f) (F : FnOk X.prog X.w X.K X.mg X.base CX k f fd ps sp) (hr : Room k X.A) (hb : Binds X.K fd ps []) (hx : ∀ σ, PassesAt CX X σ (E σ)) (ha : PA X (e :: es) t)
    (hst : starEach (e :: es) X.env = (false, eval e X.env) :: starEach es X.env := by rfl) (hpl : (backTo pos (starEach es X.env)).any (·.1) = false := by rfl)
    (ht : eval (.Call (.Attribute o m apos) (e :: es) [] pos) X.env = (do
      let ov ← eval o X.env
      standAt apos.atName
      let (f, first) ← holding [ov] (getMethod ov m pl)
      callWith pos f first (backTo pos (starEach (e :: es) X.env)) (backToKw pos (keywordEach [] X.env))) := by rfl) :
    PE X (.Call (.Attribute o m apos) (e :: es) [] pos) (tMethE C m sp E ta t) := by
  refine ⟨fun pins s σ H Q I h => ?_⟩
  refine PySem.W.methodCall_KW (pl := pl) (thn (he.run pins s σ H _ I h) fun u s1 ⟨x, H1, I1, rx, a, dx, fs, ex, ea, l, q⟩ => ?_) ht
  subst ex
  obtain rfl : u = Value.ref a := rx
  refine getmeth_ok I1 ea c hm l ?_
  refine PySem.W.callWith_K (first := [.ref a]) (h₀ := X.base) I.ok.mod.kin hm.kp (thn (ha.run pos pins s1 σ H1 _ I1 q) fun us s2 ⟨vs, H2, I2, r, q2⟩ => ⟨I2.kIn, ?_⟩) hst hpl
  exact run_fnS (us := .ref a :: us) (vs := .ref a :: vs) F hr hb (hx σ) I2 (.cons rfl r) q2
variable {to : TE} {tl : TA} {to2 : TE2} {tl2 : TA2} {sp : Sp2} {W2 : Env2 → XK2} {W : WX} {ρ : Env2} {μ : Mu} {Q : DK}
def dMethX (C : Addr) (m : Str) (sp : Sp2) (W2 : Env2 → XK2) (to : TE2) (t : TA2) : TE2 := fun ρ μ Q => to ρ μ fun d μ1 => (∃ fs, fldsOf C μ1 d = some fs ∧ fs.lookup m = none) ∧ t ρ μ1 fun ds μ2 => sp (d :: ds) μ2 Q (W2 ρ)
theorem w_methX (h : to2 ρ μ fun d μ1 => dMethK C m (tl2 ρ μ1 fun ds μ2 => sp (d :: ds) μ2 Q (W2 ρ)) d μ1) : dMethX C m sp W2 to2 tl2 ρ μ Q := h
instance st_methX : Step (dMethX C m sp W2 to2 tl2 ρ μ Q) (to2 ρ μ fun d μ1 => dMethK C m (tl2 ρ μ1 fun ds μ2 => sp (d :: ds) μ2 Q (W2 ρ)) d μ1) := ⟨fun q => q⟩
theorem re_methX [Jx] (hw : Wl X W2 W) (ho : RE X.K to to2) (ht : RA X.K tl tl2) : RE X.K (tMethE C m (toSp X.K sp) (WE W) to tl) (dMethX C m sp W2 to2 tl2) := fun ρ μ Q2 q I σ H hA hS Q g => ho ρ μ _ q I σ H hA hS _ fun d μ1 v I1 H1 q1 a1 k1 r1 => by
  obtain ⟨⟨fs, h1, h2⟩, q1⟩ := q1
  obtain ⟨p, dx, hfs, rfl, hp, hr⟩ := fldsOf_at a1 r1 h1
  refine ⟨p, dx, hfs, rfl, hp, hr.no m h2, ht ρ μ1 _ q1 I1 σ H1 a1 (hS.mono k1.ex) _ fun ds μ2 vs I2 H2 q2 a2 k2 r2 => ?_⟩
  exact ⟨d :: ds, μ2, I2, Q2, W2 ρ, a2.toAt0, ⟨_, _, rfl, r1.mono k2.ex, r2⟩, q2, (g.past (k1.trans k2)).low a2, fun C fs μ' I' H' dx hfs e a k h hi r => hw.link ρ σ C fs I' μ' H' dx hfs e a (Jx.step a2.j k) (hS.mono ((k1.trans k2).trans k).ex) h hi r⟩
theorem e_methX [Jx] {pl : Sem Bool} (F : DmX X.prog X.w X.K X.mg X.base C m j ps sp) (hw : Wl X W2 W) (hr : Room k X.A) (c : Cls X.K C) (ho : PE2 X o to to2) (ha : PA2 X (e :: es) tl tl2) (hjk : j ≤ k := by first | decide | omega)
    (hst : starEach (e :: es) X.env = (false, eval e X.env) :: starEach es X.env := by rfl) (hpl : (backTo pos (starEach es X.env)).any (·.1) = false := by rfl)
    (ht : eval (.Call (.Attribute o m apos) (e :: es) [] pos) X.env = (do
      let ov ← eval o X.env
      standAt apos.atName
      let (f, first) ← holding [ov] (getMethod ov m pl)
      callWith pos f first (backTo pos (starEach (e :: es) X.env)) (backToKw pos (keywordEach [] X.env))) := by rfl) :
    PE2 X (.Call (.Attribute o m apos) (e :: es) [] pos) (tMethE C m (toSp X.K sp) (WE W) to tl) (dMethX C m sp W2 to2 tl2) := by
  obtain ⟨f, fd, F, hm, hb⟩ := F.of
  exact ⟨pe_methE ho.pe c hm F (hr.mono hjk) hb (passAt hw.tk) ha.pa hst hpl ht, re_methX hw ho.re ha.re⟩
theorem Tm.okX {K : PySem.W.Frag} {P : Program} {w : World} {mg : Str → Option Value} {base : Heap} {q : Str} {st : Stmt} {N : List Str} (T : Tm K C m q st ps) (S : FnScope N ps (defScope st)) (len : ∀ ds μ Q E, sp ds μ Q E → ds.length = ps.length)
    (hb : ∀ [Jx] (f : Addr) (cdv : Value) (A : Around) (outer : List Env) (s : Shared) (H : Hp) (E : XK) (ds : List D) (μ : Mu) (Q : DK) (E2 : XK2), Room k (A.deeper (envOfC q (defScope st) s.heap.objs.size f cdv)) → Wl (cxOf (L2.CX P w) P w K mg base N q (defScope st) f cdv A outer s H E) (fun _ => E2) (fun cls d _ H => E cls d H) → sp ds μ Q E2 →
      ∃ ts t, PSs2 (cxOf (L2.CX P w) P w K mg base N q (defScope st) f cdv A outer s H E) (defBody st) ts t ∧ t { nx := fun _ μ' => RtC Q .non μ', rt := RtC Q } (start2 N ds) μ) : DmX P w K mg base C m (k + 1) ps sp := by
  obtain ⟨f, fd, F, hm, hbd⟩ := T.of
  refine ⟨f, fd, F.okX S (fun vs H Q E h => ?_) (fun cdv A outer s H vs Q E hr h => ?_), hm, hbd⟩
  · obtain ⟨ds, μ, I, Q2, E2, _, r, hsp, _⟩ := h
    rw [r.length]; exact len _ _ _ _ hsp
  · obtain ⟨ds, μ, I, Q2, E2, hA, r, hsp, g, gx⟩ := h
    letI jx : Jx := ⟨fun I' μ' H' => Kp I μ H I' μ' H', fun a b => a.trans b⟩
    have hA' : At K μ I H := ⟨hA, Kp.refl⟩
    have hw : Wl (cxOf (L2.CX P w) P w K mg base N q (defScope st) f cdv A outer s H E) (fun _ => E2) (fun cls d _ H => E cls d H) :=
      ⟨takes_of rfl rfl rfl rfl, fun ρ σ C fs I' μ' H' dx hfs e a j _ h hi r => gx C fs μ' I' H' dx hfs e a j h hi r⟩
    obtain ⟨ts, t, ht, hq⟩ := hb f cdv A outer s H E ds μ Q2 E2 hr hw hsp
    refine ⟨ts, ht.ps, ht.re _ _ μ hq I _ H hA' (slots_start r) _ ⟨?_, ?_, fun _ _ _ _ _ h => h.elim, fun _ _ _ _ _ h => h.elim⟩⟩
    · rintro ρ' μ' σ' I' H' ⟨d', μ2, sh, q⟩ a' s' k'
      obtain ⟨I2, a2, k2, r2⟩ := sh K I' H' .non a' rfl
      exact g d' μ2 _ I2 H' q a2.toAt0 (k'.trans k2) r2
    · rintro d μ' v I' H' ⟨d', μ2, sh, q⟩ a' k' r'
      obtain ⟨I2, a2, k2, r2⟩ := sh K I' H' v a' r'
      exact g d' μ2 _ I2 H' q a2.toAt0 (k'.trans k2) r2
end
end Y

set_option Elab.async false
set_option linter.all false
set_option maxRecDepth 100000
set_option maxHeartbeats 4000000
namespace Y
open PySem PySem.Spec PyProof.Rows L2
/-! a dict with keys of any depth: d.setdefault(k, x) -/
section
variable {X : Cx} {pins : List (Addr × Obj)} {σ : L2.St} {H I : Hp} {s : Shared}
mutual
theorem Rp.nest (hI : Exx I H) (inv : Inv X pins σ H s) : ∀ {d : D} {v : V} {k : NestedKey} {u : Value}, Rp X.K I d v → nkD d = some k → RelV v u → NestedIs s.heap k u
  | .non, v, k, u, r, e, q => by cases (show v = _ from r); cases e; cases (show u = _ from q); exact .none
  | .bl b, v, k, u, r, e, q => by cases (show v = _ from r); cases e; cases (show u = _ from q); exact .bool rfl
  | .int i, v, k, u, r, e, q => by cases (show v = _ from r); cases e; obtain ⟨t, rfl⟩ := q; exact .int _ _
  | .str x, v, k, u, r, e, q => by cases (show v = _ from r); cases e; obtain ⟨t, rfl⟩ := q; exact .text _ _
  | .tup ds, v, k, u, r, e, q => by
    obtain ⟨a, vs, rfl, h1, h2⟩ := r
    cases (show u = _ from q)
    obtain ⟨its, rv, ⟨o, ho, hc, n, hd⟩, _⟩ := inv.tuple (hI.sqt h1)
    have e : (nkA ds).map NestedKey.tup = some k := e
    obtain ⟨ks, e1, rfl⟩ := Option.map_eq_some_iff.mp e
    exact .tup ho hc hd (by simpa using RpA.nest hI inv h2 e1 rv)
  | .tun ds, v, k, u, r, e, q => by
    obtain ⟨a, vs, rfl, ⟨ob, h1, _⟩, h2⟩ := r
    cases (show u = _ from q)
    obtain ⟨its, rv, ⟨o, ho, hc, n, hd⟩, _⟩ := inv.tuple (a := a) (xs := vs) (.inl (.inr ⟨ob, hI _ _ h1⟩))
    have e : (nkA ds).map NestedKey.tup = some k := e
    obtain ⟨ks, e1, rfl⟩ := Option.map_eq_some_iff.mp e
    exact .tup ho hc hd (by simpa using RpA.nest hI inv h2 e1 rv)
  | .ty _, _, _, _, _, e, _ => by cases e
  | .adr _, _, _, _, _, e, _ => by cases e
  | .lst _, _, _, _, _, e, _ => by cases e
  | .obj _ _ _, _, _, _, _, e, _ => by cases e
  | .scr _, _, _, _, _, e, _ => by cases e
theorem RpA.nest (hI : Exx I H) (inv : Inv X pins σ H s) : ∀ {ds : List D} {vs : List V} {ks : List NestedKey} {us : List Value}, RpA X.K I ds vs → nkA ds = some ks → Vals vs us → NestedAll s.heap ks us
  | [], vs, ks, us, r, e, q => by cases (show vs = _ from r); cases e; cases q; exact .nil
  | d :: ds, vs, ks, us, r, e, q => by
    obtain ⟨v, vr, rfl, r1, r2⟩ := r
    cases q with
    | cons q1 q2 =>
      cases h1 : nkD d with
      | none => rw [nkA, h1] at e; cases e
      | some k1 =>
        cases h2 : nkA ds with
        | none => rw [nkA, h1, h2] at e; cases e
        | some kr =>
          rw [nkA, h1, h2] at e
          cases e
          exact .cons (Rp.nest hI inv r1 h1 q1) (RpA.nest hI inv r2 h2 q2)
end
/-- the dict at d -/
def IsDn (P : Program) (w : World) (H : Hp) (d : Addr) (xs : List (NestedKey × Addr × Value)) : Prop := ((d == sysModules) = false ∧ H d = some (.ext (DnRaw P w d xs))) ∨ (H d = some (.dK []) ∧ xs = [])
theorem IsDn.at (inv : Inv X pins σ H s) {d : Addr} {xs : List (NestedKey × Addr × Value)} (h : IsDn X.prog X.w H d xs) : (d == sysModules) = false ∧ DnRaw X.prog X.w d xs s.heap := by
  rcases h with ⟨h1, h2⟩ | ⟨h1, rfl⟩
  · exact ⟨h1, (inv.hok d _ h2).1⟩
  · obtain ⟨_, hd, vs, rel, o, es, ep, h2, h3, h4, _, h5, h6⟩ := dk_of inv.hok h1
    cases rel
    refine ⟨hd, o, es, ep, h2, h3, h4, ?_, List.nodup_nil⟩
    cases hes : es.toList with
    | nil => rfl
    | cons a r => rw [hes] at h5; cases h5
def KeyIs (X : Cx) (H : Hp) (k : NestedKey) (a : Addr) : Prop := k.depth ≤ 8 ∧ ∀ (pins : List (Addr × Obj)) (σ : L2.St) (s : Shared), Inv X pins σ H s → NestedIs s.heap k (.ref a)
theorem dnRaw_new {P : Program} {w : World} {H : Hp} {h : Heap} {d : Addr} {xs : List (NestedKey × Addr × Value)} (R : DnRaw P w d xs h) : ObjOk P w H h d (.ext (DnRaw P w d xs)) := by
  have ⟨o, _, _, ho, _⟩ := R
  refine ⟨R, ⟨o, ho⟩, fun h1 h2 p k => ?_⟩
  obtain ⟨o, es, ep, e, r⟩ := p
  exact ⟨o, es, ep, k _ e, r⟩
def tSetN (X : Cx) (td ty tx : TE) : TE := fun σ H Q => td σ H fun x H1 => ∃ d, x = .ref d ∧ (∃ xs, IsDn X.prog X.w H1 d xs) ∧ ty σ H1 fun y H2 => tx σ H2 fun z H3 => ∃ k a xs, y = .ref a ∧ IsDn X.prog X.w H3 d xs ∧ xs.length < sizeLine ∧
  KeyIs X H3 k a ∧ (∀ x ∈ xs, KeyIs X H3 x.1 x.2.1) ∧ (∀ p, atKey xs k = some p → ∃ v, RelV v p.2 ∧ Q v H3) ∧ (atKey xs k = none → (d == sysModules) = false → ∀ u, RelV z u → Q z (upd H3 d (.ext (DnRaw X.prog X.w d (xs ++ [(k, a, u)])))))
theorem dh_of {P : Program} {w : World} {h : Heap} {d : Addr} {xs : List (NestedKey × Addr × Value)} (R : DnRaw P w d xs h) (hk : ∀ x ∈ xs, (nestedKind P w).is h x.1 x.2.1) : h.DictOfH (nestedKind P w) d xs := by
  obtain ⟨o, es, ep, e, h1, h2, h3, h4⟩ := R
  exact ⟨o, es, ep, e, h1, h2, h3, hk, h4⟩
theorem dh_to {P : Program} {w : World} {h : Heap} {d : Addr} {xs : List (NestedKey × Addr × Value)} (R : h.DictOfH (nestedKind P w) d xs) : DnRaw P w d xs h := by
  obtain ⟨o, es, ep, e, h1, h2, h3, _, h4⟩ := R
  exact ⟨o, es, ep, e, h1, h2, h3, h4⟩
theorem IsDn.mut {P : Program} {w : World} {H : Hp} {d : Addr} {xs : List (NestedKey × Addr × Value)} (h : IsDn P w H d xs) : Mut (H d) := by
  rcases h with ⟨_, h⟩ | ⟨h, _⟩ <;> rw [h] <;> exact True.intro
variable {o e f : Expr} {td ty tx : TE} {apos cpos : Pos}
theorem pe_setN (hu : X.A.units + 64 < cLine) (ho : PE X o td) (he : PE X e ty) (hf : PE X f tx) (m : M2 X o "setdefault" apos e f cpos) : PE X (.Call (.Attribute o "setdefault" apos) [e, f] [] cpos) (tSetN X td ty tx) := by
  refine ⟨fun pins s σ H Q I h => ?_⟩
  refine wpAny_Call_method m.base m.few m.line PySem.F.plainAttrs_dict PySem.F.slot_dict_setdefault PySem.F.type_dict_setdefault (thn (ho.run pins s σ H _ I h) fun u s1 ⟨x, H1, I1, rx, a, ex, ⟨xs0, d⟩, q1⟩ => ?_)
  subst ex
  obtain rfl : u = Value.ref a := rx
  obtain ⟨hsys, ob, es, ep, h1, h2, _⟩ := d.at I1
  refine ⟨⟨ob, h1, h2.1⟩, fun b q => (by cases q; exact ⟨ob, h1, h2.2.1⟩), ?_⟩
  rw [m.trees]
  refine Calls.callWith_builtin rfl (Calls.evalArgs_plain (Calls.spliced_cons (thn (he.run pins s1 σ H1 _ I1 q1) fun iv s2 ⟨y, H2, I2, ry, q2⟩ =>
    Calls.spliced_cons (thn (hf.run pins s2 σ H2 _ I2 q2) fun fv s3 ⟨z, H3, I3, rz, k, ka, xs, ey, dn, hl, hk, hks, q3, q4⟩ => Calls.spliced_nil ?_))))
  subst ey
  obtain rfl : iv = Value.ref ka := ry
  have hd := dh_of (dn.at I3).2 (fun x hx => ⟨(hks x hx).2 _ _ _ I3, (hks x hx).1⟩)
  refine call_setdefault_heap (knd := nestedKind X.prog X.w) (hsz := Nat.le_of_lt hl) (show _ + 8 < cLine from ?_) ⟨hk.2 _ _ _ I3, hk.1⟩ hsys hd (fun p hp => ?_) fun hn h' dd' hs => ?_
  · show (X.A.units + 1) + 8 < cLine
    omega
  · obtain ⟨v, rv, q⟩ := q3 p hp
    exact ⟨v, H3, I3.tok _, rv, q⟩
  · rw [storedH_new hn] at dd'
    have raw := dh_to dd'
    have he : ∃ q, h'.get? a = some q := let ⟨q, _, _, hq, _⟩ := raw; ⟨q, hq⟩
    exact ⟨z, _, d_write I3 dn.mut hs he (dnRaw_new raw), rz, q4 hn hsys fv rz⟩
end
theorem paired_r {α β : Type} {R : α → β → Prop} : ∀ {l : List α} {m : List β}, Paired R l m → ∀ y ∈ m, ∃ x ∈ l, R x y
  | _, _, .nil, _, h => by cases h
  | _, _, .cons r t, y, h => by
    rcases List.mem_cons.mp h with rfl | h
    · exact ⟨_, List.mem_cons_self, r⟩
    · obtain ⟨x, hx, q⟩ := paired_r t y h
      exact ⟨x, List.mem_cons_of_mem _ hx, q⟩
theorem paired_l {α β : Type} {R : α → β → Prop} : ∀ {l : List α} {m : List β}, Paired R l m → ∀ x ∈ l, ∃ y ∈ m, R x y
  | _, _, .nil, _, h => by cases h
  | _, _, .cons r t, y, h => by
    rcases List.mem_cons.mp h with rfl | h
    · exact ⟨_, List.mem_cons_self, r⟩
    · obtain ⟨x, hx, q⟩ := paired_l t y h
      exact ⟨x, List.mem_cons_of_mem _ hx, q⟩
theorem paired_snoc {α β : Type} {R : α → β → Prop} {x : α} {y : β} (r : R x y) : ∀ {l : List α} {m : List β}, Paired R l m → Paired R (l ++ [x]) (m ++ [y])
  | _, _, .nil => .cons r .nil
  | _, _, .cons q t => .cons q (paired_snoc r t)
section
variable {X : Cx} {o e f : Expr} {to te tf : TE} {to2 te2 tf2 : TE2} {apos cpos : Pos} {P : Program} {w : World} {ρ : Env2} {μ : Mu} {Q : DK} {k : Nat} {I H : Hp} {K : PySem.W.Frag}
def dSetNK (P : Program) (w : World) (N : Prop) : D → Mu → Prop := fun x μ1 => (∃ p, x = .adr p ∧ ((∃ kvs, μ1 p = some (.dn P w kvs)) ∨ μ1 p = some (.dk []))) ∧ N
def dSetNL (P : Program) (w : World) (x y : D) (Q : DK) : DK := fun z μ3 => ∃ p kvs ds k, x = .adr p ∧ y = .tup ds ∧ nkD (.tup ds) = some k ∧ k.depth ≤ 8 ∧ (μ3 p = some (.dn P w kvs) ∨ (μ3 p = some (.dk []) ∧ kvs = [])) ∧ kvs.length < sizeLine ∧
  (∀ q ∈ kvs, nkD q.1 = some k → Q q.2 μ3) ∧ ((∀ q ∈ kvs, nkD q.1 ≠ some k) → Q z (mup μ3 p (.dn P w (kvs ++ [(.tup ds, z)]))))
def dSetN (P : Program) (w : World) (to te tf : TE2) : TE2 := fun ρ μ Q => to ρ μ fun x μ1 => dSetNK P w (te ρ μ1 fun y μ2 => tf ρ μ2 (dSetNL P w x y Q)) x μ1
theorem w_setN (h : to2 ρ μ fun x μ1 => dSetNK P w (te2 ρ μ1 fun y μ2 => tf2 ρ μ2 (dSetNL P w x y Q)) x μ1) : dSetN P w to2 te2 tf2 ρ μ Q := h
instance st_setN : Step (dSetN P w to2 te2 tf2 ρ μ Q) (to2 ρ μ fun x μ1 => dSetNK P w (te2 ρ μ1 fun y μ2 => tf2 ρ μ2 (dSetNL P w x y Q)) x μ1) := ⟨fun q => q⟩
theorem w_setNK {N : Prop} {p : Addr} {kvs : List (D × D)} (h : μ p = some (.dn P w kvs)) (q : N) : dSetNK P w N (.adr p) μ := ⟨⟨p, rfl, .inl ⟨kvs, h⟩⟩, q⟩
theorem w_setNK0 {N : Prop} {p : Addr} (h : μ p = some (.dk [])) (q : N) : dSetNK P w N (.adr p) μ := ⟨⟨p, rfl, .inr h⟩, q⟩
theorem w_setNL {p : Addr} {kvs : List (D × D)} {ds : List D} {z : D} {k : NestedKey} (hk : nkD (.tup ds) = some k) (hd : k.depth ≤ 8) (h : μ p = some (.dn P w kvs)) (hl : kvs.length < sizeLine) (q1 : ∀ q ∈ kvs, nkD q.1 = some k → Q q.2 μ) (q2 : (∀ q ∈ kvs, nkD q.1 ≠ some k) → Q z (mup μ p (.dn P w (kvs ++ [(.tup ds, z)])))) :
    dSetNL P w (.adr p) (.tup ds) Q z μ := ⟨p, kvs, ds, k, rfl, rfl, hk, hd, .inl h, hl, q1, q2⟩
theorem w_setNL0 {p : Addr} {ds : List D} {z : D} {k : NestedKey} (hk : nkD (.tup ds) = some k) (hd : k.depth ≤ 8) (h : μ p = some (.dk [])) (q2 : Q z (mup μ p (.dn P w [(.tup ds, z)]))) :
    dSetNL P w (.adr p) (.tup ds) Q z μ := ⟨p, [], ds, k, rfl, rfl, hk, hd, .inr ⟨h, rfl⟩, Nat.zero_lt_of_lt (show 0 < sizeLine by decide), (fun q hq => by cases hq), fun _ => q2⟩
theorem dn_at [Jx] {p : Addr} {kvs : List (D × D)} (hA : At K μ I H) (h : μ p = some (.dn P w kvs) ∨ (μ p = some (.dk []) ∧ kvs = [])) : ∃ xs, IsDn P w H p xs ∧ RpN K I kvs xs := by
  rcases h with h | ⟨h, rfl⟩
  · obtain ⟨_, ob, ho, hs, xs, rfl, r⟩ := hA.own p _ h
    exact ⟨xs, .inl ⟨hs, ho⟩, r⟩
  · obtain ⟨_, ob, ho, vs, rfl, r⟩ := hA.own p _ h
    cases (show RpK K I [] vs from r)
    exact ⟨[], .inr ⟨ho, rfl⟩, .nil⟩
theorem e_setN [Jx] (hP : X.prog = P) (hW : X.w = w) (hr : Room k X.A) (ho : PE2 X o to to2) (he : PE2 X e te te2) (hf : PE2 X f tf tf2) (hbase : attributeBase o "setdefault" X.env (eval o X.env) = eval o X.env := by rfl)
    (hfew : ((backTo cpos (starEach [e, f] X.env)).all (fun x => !x.1) && (backToKw cpos (keywordEach [] X.env)).all (fun x => x.1.isSome) && decide (([e, f] : List Expr).length + ([] : List Keyword).length + (if ([] : List Keyword).isEmpty then 0 else 1) < 30)) = true := by rfl)
    (hline : (apos.endLine == cpos.line) = true := by rfl) (hs : backTo cpos (starEach [e, f] X.env) = [(false, eval e X.env), (false, eval f X.env)] := by rfl) :
    PE2 X (.Call (.Attribute o "setdefault" apos) [e, f] [] cpos) (tSetN X to te tf) (dSetN P w to2 te2 tf2) := by
  subst hP hW
  exact ⟨pe_setN (Nat.lt_of_le_of_lt (Nat.add_le_add_left (by decide) _) hr.units) ho.pe he.pe hf.pe ⟨hbase, hfew, hline, hs⟩, fun ρ μ Q2 q I σ H hA hS Q g => ho.re ρ μ _ q I σ H hA hS _ fun x μ1 vx I1 H1 q1 a1 k1 r1 => by
    obtain ⟨⟨p0, rfl, h0⟩, q1⟩ := q1
    cases (show vx = _ from r1)
    have d0 : ∃ xs, IsDn X.prog X.w H1 p0 xs := by
      rcases h0 with ⟨kvs, h0⟩ | h0
      · obtain ⟨xs, h, _⟩ := dn_at a1 (.inl h0); exact ⟨xs, h⟩
      · obtain ⟨xs, h, _⟩ := dn_at (P := X.prog) (w := X.w) (kvs := []) a1 (.inr ⟨h0, rfl⟩); exact ⟨xs, h⟩
    refine ⟨p0, rfl, d0, he.re ρ μ1 _ q1 I1 σ H1 a1 (hS.mono k1.ex) _ fun y μ2 vy I2 H2 q2 a2 k2 r2 => hf.re ρ μ2 _ q2 I2 σ H2 a2 (hS.mono (k1.trans k2).ex) _ fun z μ3 vz I3 H3 q3 a3 k3 r3 => ?_⟩
    obtain ⟨p1, kvs, ds, ky, e1, rfl, hk, hkd, h, hl, q4, q5⟩ := q3
    cases e1
    have kk := (k1.trans k2).trans k3
    have r2' := r2.mono k3.ex
    obtain ⟨ka, vs, rfl, _⟩ := r2
    obtain ⟨xs, dn, rel⟩ := dn_at a3 h
    have hm : ∃ m, μ3 p0 = some m := by rcases h with h | ⟨h, _⟩ <;> exact ⟨_, h⟩
    obtain ⟨m0, hm⟩ := hm
    refine ⟨ky, ka, xs, rfl, dn, by rw [← rel.length]; exact hl, ⟨hkd, fun pins σ s inv => Rp.nest a3.sub inv r2' hk rfl⟩, fun x hx => ?_, fun pp hp => ?_, fun hn hsys u ru => ?_⟩
    · obtain ⟨q, _, e1, e2, e3, _⟩ := paired_r rel x hx
      exact ⟨e2, fun pins σ s inv => Rp.nest a3.sub inv e3 e1 rfl⟩
    · obtain ⟨x, hx, rfl⟩ := Option.map_eq_some_iff.mp hp
      have hxk : x.1 = ky := of_decide_eq_true (List.find?_some (p := fun x : NestedKey × Addr × Value => decide (x.1 = ky)) hx)
      obtain ⟨q, hq, e1, e2, e3, v, e4, e5⟩ := paired_r rel x (List.mem_of_find?_eq_some hx)
      exact ⟨v, e5, g _ _ _ _ _ (q4 q hq (by rw [e1, hxk])) a3 kk e4⟩
    · have hno : ∀ q ∈ kvs, nkD q.1 ≠ some ky := fun q hq z => by
        obtain ⟨x, hx, e1, _⟩ := paired_l rel q hq
        rw [e1] at z
        have hz : x.1 = ky := Option.some.inj z
        have := List.find?_eq_none.mp (Option.map_eq_none_iff.mp hn) x hx
        exact this (decide_eq_true hz)
      exact g _ _ _ _ _ (q5 hno) (a3.put hm ⟨hsys, _, rfl, paired_snoc ⟨hk, hkd, r2', vz, r3, ru⟩ rel⟩) (kk.trans (Kp.put hm)) r3⟩
end
/-! one of two readings of what is walked -/
section
variable {X : Cx} {tg e : Expr} {wa wb : TI} {ta tb : TI2} {ρ : Env2} {μ : Mu} {R : List D → (Mu → Prop) → Mu → Prop}
def jAlt (t u : TI2) : TI2 := fun ρ μ R => t ρ μ R ∨ u ρ μ R
theorem w_jaltL (h : ta ρ μ R) : jAlt ta tb ρ μ R := .inl h
theorem w_jaltR (h : tb ρ μ R) : jAlt ta tb ρ μ R := .inr h
theorem j_alt [Jx] (h1 : PI2 X tg e wa ta) (h2 : PI2 X tg e wb tb) : PI2 X tg e (fun σ H R => wa σ H R ∨ wb σ H R) (jAlt ta tb) :=
  ⟨⟨fun pins s σ H R I h => h.elim (fun h => h1.pi.run pins s σ H R I h) fun h => h2.pi.run pins s σ H R I h⟩, fun ρ μ R2 q I σ H hA hS R k => q.elim (fun q => .inl (h1.re ρ μ R2 q I σ H hA hS R k)) fun q => .inr (h2.re ρ μ R2 q I σ H hA hS R k)⟩
end
end Y

set_option Elab.async false
set_option linter.all false
set_option maxRecDepth 100000
set_option maxHeartbeats 4000000
namespace Y
open PySem PySem.Spec PyProof.Rows L2
/-! max(xs, default=n), min(xs) of whole numbers -/
def mxDf (n : Int) : List Int → Int
  | [] => n
  | a :: r => r.foldl max a
section
variable {X : Cx} {K : PySem.W.Frag} {e d : Expr} {tl : TA} {tl2 : TA2} {td : TE} {td2 : TE2} {p pos kpos : Pos} {ρ : Env2} {μ : Mu} {Q : DK}
def rMaxDf (K : PySem.W.Frag) : List V → List V → Hp → VK → Prop := fun vs zs H Q => ∃ (a : Addr) (ns : List Int) (n : Int), vs = [V.ref a] ∧ zs = [V.int n] ∧ ns.length ≤ 1000000 ∧ SqL K H a (ns.map V.int) ∧ Q (.int (mxDf n ns)) H
theorem alike_intsAll (ns : List Int) : PySem.W.AlikeAll (ns.map PyData.int) := by
  refine ⟨fun x hx y hy => ?_, fun x hx => ?_⟩
  · obtain ⟨n, _, rfl⟩ := List.mem_map.mp hx
    obtain ⟨m, _, rfl⟩ := List.mem_map.mp hy
    rfl
  · obtain ⟨n, _, rfl⟩ := List.mem_map.mp hx
    exact fun z => by cases z
theorem cr_maxDf (hc : X.calm = true) (hu : X.A.units + 64 < cLine) : CallRK X (.builtin "max") [Str.ofString "default"] (rMaxDf X.K) := by
  intro pins s σ H vs zs us ws Q I r rz h
  obtain ⟨a, ns, n, rfl, rfl, hl, hs, q⟩ := h
  obtain ⟨its, rv, pl, hz⟩ := I.list hs
  obtain rfl := Vals.ref1 r
  obtain ⟨w1, rfl, e1⟩ := vals1 rz
  have hd : PyData.depthAll (ns.map PyData.int) = 0 := PySem.W.depth_ints ns
  refine PySem.W.max_list_default (xs := ns.map PyData.int) (I.ok.hd hc) pl.isList (reads_ints rv) (alike_intsAll ns) (by rw [hd]; omega) (fun h0 h' tk hk => ?_) (fun y ys i v h' tk bs h0 _ hr hk => ?_)
  · have : ns = [] := List.map_eq_nil_iff.mp h0
    subst this
    exact ⟨.int n, H, I.kept hk, e1, q⟩
  · cases ns with
    | nil => cases h0
    | cons m r =>
      injection h0 with g1 g2
      subst g1 g2
      rw [PySem.W.maxD_ints] at hr
      cases hr
      exact ⟨.int _, H, I.kept hk, ⟨_, rfl⟩, q⟩
def dMaxDf (tl2 : TA2) (td2 : TE2) : TE2 := fun ρ μ Q => tl2 ρ μ fun xs μ1 => td2 ρ μ1 fun z μ2 => ∃ (y : D) (ns : List Int) (n : Int), xs = [y] ∧ z = .int n ∧ ns.length ≤ 1000000 ∧ asL μ2 y = some (ns.map D.int) ∧ Q (.int (mxDf n ns)) μ2
def dMaxDfK (Q : DK) (xs : List D) : DK := fun z μ2 => ∃ (y : D) (ns : List Int) (n : Int), xs = [y] ∧ z = .int n ∧ ns.length ≤ 1000000 ∧ asL μ2 y = some (ns.map D.int) ∧ Q (.int (mxDf n ns)) μ2
theorem w_maxDf (h : tl2 ρ μ fun xs μ1 => td2 ρ μ1 (dMaxDfK Q xs)) : dMaxDf tl2 td2 ρ μ Q := h
instance st_maxDf : Step (dMaxDf tl2 td2 ρ μ Q) (tl2 ρ μ fun xs μ1 => td2 ρ μ1 (dMaxDfK Q xs)) := ⟨fun q => q⟩
theorem w_maxDfK {y : D} {ns : List Int} {n : Int} (hl : ns.length ≤ 1000000) (h : asL μ y = some (ns.map D.int)) (q : Q (.int (mxDf n ns)) μ) : dMaxDfK Q [y] (.int n) μ := ⟨y, ns, n, rfl, rfl, hl, h, q⟩
theorem e_maxDf [Jx] {k : Nat} (hc : X.calm = true) (hr : Room k X.A) (hg : Gl X "max") (hm : X.mg "max" = none) (ha : PA2 X [e] tl tl2) (hd : PE2 X d td td2) (hv : bootBuiltins "max" = some (.builtin "max") := by decide +kernel)
    (he : backTo pos (starEach [e] X.env) = (false, eval e X.env) :: backTo pos (starEach [] X.env) := by rfl) (hpl : (backTo pos (starEach [e] X.env)).any (·.1) = false := by rfl)
    (hall : (backToKw pos (keywordEach [⟨some "default", d, kpos⟩] X.env)).all (·.1.isSome) = true := by rfl) (hnone : (backToKw pos (keywordEach [⟨some "default", d, kpos⟩] X.env)).any (·.1.isNone) = false := by rfl) (hks : (backToKw pos (keywordEach [⟨some "default", d, kpos⟩] X.env)).filterMap (·.1) = [Str.ofString "default"] := by rfl) :
    PE2 X (.Call (.Name "max" p) [e] [⟨some "default", d, kpos⟩] pos) (tCKw (rMaxDf X.K) tl (tCons td tNil)) (dMaxDf tl2 td2) :=
  ⟨pe_callBK (cr_maxDf hc hr.units) hg hm hv ha.pa (pk_cons hd.pe pk_nil) (by decide) (by decide) he hpl hall hnone hks, fun ρ μ Q2 q I σ H hA hS Q g => ha.re ρ μ _ q I σ H hA hS _ fun xs μ1 vs I1 H1 q1 a1 k1 r1 => hd.re ρ μ1 _ q1 I1 σ H1 a1 (hS.mono k1.ex) _ fun z μ2 vz I2 H2 q2 a2 k2 r2 => by
    obtain ⟨y, ns, n, rfl, rfl, hl, h, q⟩ := q2
    obtain ⟨v, rfl, rv⟩ := (r1.mono k2.ex).one_inv
    obtain ⟨l, ws, rfl, h1, h2⟩ := asL_at a2 rv h
    cases h2.ints_inv
    cases (show vz = _ from r2)
    exact ⟨l, ns, n, rfl, rfl, hl, SqL.of h1, g _ _ _ _ _ q a2 (k1.trans k2) rfl⟩⟩
def dMinL : DRC := fun xs μ Q => ∃ (y : D) (ns : List Int), xs = [y] ∧ asL μ y = some (ns.map D.int) ∧ 0 < ns.length ∧ ∀ m, m ∈ ns → (∀ y, y ∈ ns → m ≤ y) → Q (.int m) μ
theorem w_minL {y : D} {ns : List Int} (h : asL μ y = some (ns.map D.int)) (l : 0 < ns.length) (q : ∀ m, m ∈ ns → (∀ y, y ∈ ns → m ≤ y) → Q (.int m) μ) : dMinL [y] μ Q := ⟨y, ns, rfl, h, l, q⟩
theorem rc_min [Jx] : RC K (rMin K) dMinL := fun xs μ Q2 q I H vs hA r Q k => by
  obtain ⟨y, ns, rfl, h, l, q⟩ := q
  obtain ⟨v, rfl, rv⟩ := r.one_inv
  obtain ⟨p, ws, rfl, h1, h2⟩ := asL_at hA rv h
  cases h2.ints_inv
  exact ⟨p, ns, rfl, SqL.of h1, l, fun m h3 h4 => k _ _ _ _ _ (q m h3 h4) hA Kp.refl rfl⟩
theorem e_minL [Jx] (hc : X.calm = true) (hg : Gl X "min") (hm : X.mg "min" = none) (ha : PA2 X [e] tl tl2) (hv : bootBuiltins "min" = some (.builtin "min") := by decide +kernel) (he : starEach [e] X.env = (false, eval e X.env) :: starEach [] X.env := by rfl) :
    PE2 X (.Call (.Name "min" p) [e] [] pos) (tCB (rMin X.K) tl) (dCB dMinL tl2) := e_cb (cr_min hc) rc_min hg hm hv ha (he := he)
end
end Y

set_option Elab.async false
set_option linter.all false
set_option maxRecDepth 100000
set_option maxHeartbeats 8000000
namespace Y
open PySem PySem.Spec PyProof.Rows L2
/-! sorted(set(xs)) of whole numbers -/
def ddI (ks : List Int) (k : Int) : List Int := if k ∈ ks then ks else k :: ks
theorem ddI_mem {ks : List Int} {k x : Int} : x ∈ ddI ks k ↔ x = k ∨ x ∈ ks := by
  unfold ddI
  split
  · exact ⟨.inr, fun h => h.elim (fun e => by rw [e]; assumption) id⟩
  · exact List.mem_cons
theorem ddI_len {ks : List Int} {k : Int} : (ddI ks k).length ≤ ks.length + 1 := by
  unfold ddI
  split
  · exact Nat.le_succ _
  · exact Nat.le_refl _
theorem ddsI_mem {x : Int} : ∀ (xs ks : List Int), x ∈ xs.foldl ddI ks ↔ x ∈ xs ∨ x ∈ ks
  | [], ks => by simp
  | k :: xs, ks => by
    rw [List.foldl_cons, ddsI_mem xs, ddI_mem, List.mem_cons]
    exact ⟨fun h => h.elim (fun a => .inl (.inr a)) fun h => h.elim (fun a => .inl (.inl a)) .inr, fun h => h.elim (fun h => h.elim (fun a => .inr (.inl a)) .inl) fun a => .inr (.inr a)⟩
theorem ddsI_len : ∀ (xs ks : List Int), (xs.foldl ddI ks).length ≤ xs.length + ks.length
  | [], ks => by simp
  | k :: xs, ks => by
    rw [List.foldl_cons, List.length_cons]
    have h1 := ddsI_len xs (ddI ks k); have h2 := @ddI_len ks k
    omega
theorem ints_len2 : ∀ {its : List Value} {xs : List Int}, IntsAre its xs → its.length = xs.length
  | _, _, .nil => rfl
  | _, _, .cons _ _ r => congrArg (· + 1) (ints_len2 r)
theorem ints_at2 : ∀ {its : List Value} {xs : List Int}, IntsAre its xs → ∀ (i : Nat) (v : Value), its[i]? = some v → ∃ t, v = Value.int (xs.getD i 0) t
  | _, _, .nil, i, v, h => by simp at h
  | _, _, .cons n t r, 0, v, h => by simp at h; exact ⟨t, by rw [← h]; rfl⟩
  | _, _, .cons n t r, i + 1, v, h => by
    obtain ⟨u, e⟩ := ints_at2 r i v (by simpa using h)
    exact ⟨u, by simpa using e⟩
section
variable {P : Program} {w : World} {A : Around} {E : Value → Shared → Prop} {s : Shared} {a : Addr} {ks : List Int}
def IxS (w : World) (h : Heap) (a : Addr) (ks : List Int) : Prop := SetR w h a (fun k => decide (k ∈ ks)) ks.length
theorem IxS.move {h h' : Heap} (R : IxS w h a ks) (k : ∀ o, h.get? a = some o → h'.get? a = some o) : IxS w h' a ks := SetR.at R k
theorem ix_fresh {h : Heap} {a : Addr} (ho : h.get? a = some { cls := .type "set", dict := none, data := .set #[] 0 (.fresh 0 0 (!w.params.followText "set-order")) }) : IxS w h a [] := by
  refine ⟨_, #[], 0, _, ho, ⟨rfl, rfl, rfl⟩, rfl, (fun e z => by simp at z), (by simp), (fun k => by simp), (by decide), rfl, rfl, List.Pairwise.nil, ?_⟩
  show _ ∨ (!w.params.followText "set-order") = true
  cases q : w.params.followText "set-order"
  · exact .inr rfl
  · exact .inl rfl
theorem ix_add {k : Int} {u : Tok} {Q : Bool → Shared → Prop} (R : IxS w s.heap a ks) (room : ks.length + 1 < scanBound)
    (hQ : ∀ (b : Bool) (h' : Heap), Heap.SameBut a s.heap h' → IxS w h' a (ddI ks k) → Q b { s with heap := h' }) : wpAny (model P w) A (setAddHashed a (.int k u) ((PySem.intKind P w).hash k)) Q E s := by
  refine setR_add_hashed R room fun h' sb r => hQ _ h' sb ?_
  have e : ∀ j, (decide (j ∈ ks) || decide (j = k)) = decide (j ∈ ddI ks k) := fun j => by
    rw [show decide (j ∈ ddI ks k) = decide (j = k ∨ j ∈ ks) from decide_eq_decide.mpr ddI_mem]
    by_cases h1 : j ∈ ks <;> by_cases h2 : j = k <;> simp [h1, h2]
  have r2 := r.congr fun j => (e j).symm
  have l : (if decide (k ∈ ks) = true then ks.length else ks.length + 1) = (ddI ks k).length := by
    unfold ddI
    by_cases h : k ∈ ks
    · rw [if_pos (decide_eq_true h), if_pos h]
    · rw [if_neg (by simpa using h), if_neg h]; rfl
  rw [l] at r2
  exact r2
/-- the loop that takes each of a row in -/
theorem ix_loop {J S : Addr} {fp wr : List Addr} {G : Array GenState → Array GenState → Prop} {n : Nat} {Pv : Nat → Value → Prop} {St : Nat → Shared → Prop} {R : Result → Shared → Prop} (W : WalksS P w A.in1 J fp wr G n Pv St) (off : S ∉ fp)
    (xs : List Int) (hn : n = xs.length) (hb : xs.length + 1 < scanBound) (hv : ∀ i v, Pv i v → ∃ k t, xs[i]? = some k ∧ v = Value.int k t) :
    ∀ (m i : Nat) (s : Shared), n - i = m → i ≤ n → St i s → IxS w s.heap S ((xs.take i).foldl ddI []) → (∀ s', Moved (S :: wr) G s s' → IxS w s'.heap S (xs.foldl ddI []) → R (.ok (.ret .none)) s') →
      codeAny (model P w) A (.builtin "set.update.loop" ⟨[.ref S, .ref J], []⟩) R s := by
  have offW : S ∉ wr := fun h => off (W.sub _ h)
  have more : ∀ b, b ∈ wr → b ∈ S :: wr := fun b h => List.mem_cons_of_mem _ h
  intro m; induction m with
  | zero =>
    intro i s h1 h2 st hS hR
    obtain rfl : i = n := by omega
    refine codeAny_builtin F.entry_set_update_loop ?_; rw [Around.under_plainId F.plain_set_update_loop _]
    show wpAny _ A.in1 (pyNext (.ref J) >>= _) _ _ s
    refine wpAny_bind (W.done s _ _ st fun s' hm => ?_); show wpAny _ A.in1 (ret Value.none) _ _ s'
    rw [List.take_of_length_le (by omega)] at hS
    exact wpAny_pure (hR s' (hm.mono more) (hS.move fun o e => hm.heap S o offW e))
  | succ m ih =>
    intro i s h1 h2 st hS hR
    have lt : i < n := by omega
    refine codeAny_builtin F.entry_set_update_loop ?_; rw [Around.under_plainId F.plain_set_update_loop _]
    show wpAny _ A.in1 (pyNext (.ref J) >>= _) _ _ s
    refine wpAny_bind (W.item i s _ _ lt st fun v s' hP st' hm => ?_)
    obtain ⟨z, t, hz, rfl⟩ := hv i v hP
    have hS' : IxS w s'.heap S ((xs.take i).foldl ddI []) := hS.move fun o e => hm.heap S o offW e
    show wpAny _ A.in1 (holding [Value.int z t] (setAdd S (.int z t)) >>= _) _ _ s'
    refine wpAny_bind (wpAny_holding ?_); unfold setAdd
    refine wpAny_holding (wpAny_bind ((PySem.intKind P w).pyHash (k := z) (intKind_is _ _ _ _) ?_))
    have len : ((xs.take i).foldl ddI []).length ≤ i := by
      have := ddsI_len (xs.take i) []; rw [List.length_nil, List.length_take] at this; omega
    refine ix_add (s := { s' with toks := s'.toks + 1 }) hS' (by omega) fun b h' sb hS2 => ?_
    have hS3 : IxS w h' S ((xs.take (i + 1)).foldl ddI []) := by
      rw [List.take_add_one, hz, List.foldl_append]
      exact hS2
    refine wpAny_pure ⟨plainId_quiet F.plain_set_update_loop _, ih (i + 1) _ (by omega) lt (W.frame _ s' _ _ st' (Nat.le_succ _) fun c hc o e => ?_) hS3 fun s2 hm2 hS4 => ?_⟩
    · rw [sb.2 c (fun h : c = S => off (by rw [← h]; exact hc))]; exact e
    · refine hR s2 (Moved.trans W.gtrans ((hm.mono more).then_heap (Nat.le_succ _) fun c o hc e => ?_) hm2) hS4
      rw [sb.2 c (fun h : c = S => hc (by rw [h]; exact List.mem_cons_self))]; exact e
/-- set(xs) -/
theorem ix_set {l : Addr} {its : Array Value} {xs : List Int} {Q : Value → Shared → Prop} (hh : A.handled = none) (hl : s.heap.IsList l its) (hi : IntsAre its.toList xs) (hb : xs.length + 1 < scanBound)
    (h : ∀ (h' : Heap) (tk : Nat), IxS w h' s.heap.objs.size (xs.foldl ddI []) → (∀ b o, s.heap.get? b = some o → h'.get? b = some o) → Q (.ref s.heap.objs.size) { s with heap := h', toks := tk }) :
    wpAny (model P w) A (call (.type "set") [.ref l]) Q E s := by
  obtain ⟨c, tl, hmro⟩ := F.called_set.mro
  have hmade := F.called_set.made; have hsub := F.called_set.sub; have c1 := F.called_set.notType; have c2 := F.called_set.canCreate; have c3 := F.typeCall_set_1 (.ref l)
  refine wpAny_call (codeAny_of_tree ?_); show wpAny _ _ (callAny (.type "set") _) _ _ _
  refine wpAny_pure ⟨Code.quiet_builtin _ (by decide +kernel), codeAny_builtin F.entry_type_call ?_⟩; rw [Around.under_plain (weight_type_call_type "set" [.ref l] []) rfl]
  repeat (any_goals (first | assumption | wp_step))
  let new : Obj := { cls := .type "set", dict := none, data := .set #[] 0 (.fresh 0 0 (!w.params.followText "set-order")) }
  refine codeAny_mono (code_set_led1 (.ref l) (E := E) (Q₁ := fun obj z => obj = .ref s.heap.objs.size ∧ z = { s with heap := s.heap.push new }) ⟨rfl, rfl⟩) fun r z hr => ?_
  cases r with
  | error e => exact hr
  | ok fl =>
    cases fl with
    | ret obj =>
      obtain ⟨rfl, rfl⟩ := hr
      have nS : (s.heap.push new).get? s.heap.objs.size = some new := Heap.get?_push_size _ rfl
      have hT : Shared.TypeIs { s with heap := s.heap.push new } (.ref s.heap.objs.size) "set" := ⟨_, nS, rfl⟩
      have d1 := F.called_set.init.lookup; have d2 := F.called_set.init.bind (.ref s.heap.objs.size)
      repeat (any_goals (first | assumption | wp_step))
      refine codeAny_mono (codeAny_call_builtin (R := wants (fun r z2 => r = .none ∧ ∃ h' tk, z2 = { s with heap := h', toks := tk } ∧ IxS w h' s.heap.objs.size (xs.foldl ddI []) ∧ (∀ b o, s.heap.get? b = some o → h'.get? b = some o)) E) F.called_set.init.plain F.entry_set_init (check_set_init_1 hT ?_)) fun r2 z2 hr2 => ?_
      · obtain ⟨⟨oc, od, oda, osl⟩, hol, hcl, nl, hdl⟩ := hl
        simp only at hcl hdl; subst hcl hdl
        have hol' : (s.heap.push new).get? l = some { cls := .type "list", dict := od, data := .seq its nl, slots := osl } := Heap.get?_push_of_some _ hol
        have s1 := F.sub_list_set; have s2 := F.sub_list_frozenset; have s3 : (Value.type "list" == Value.type "dict") = false := by decide
        have l1 : (s.heap.push new).IsList l its := ⟨_, hol', rfl, nl, rfl⟩
        unfold Builtin.«set.__init__» noKeywords Builtin.Frozenset.updateFrom
        generalize hPI : pyIter = PI
        wp_walk
        subst hPI
        refine wpAny_pyIter_list l1 (wpAny_bind (wpAny_runValue ?_))
        have lS : l < s.heap.objs.size := Heap.lt_size hol
        have hA3 : A.in1.in1.in1.handled = none := by simp [hh]
        have ne : l ≠ (s.heap.push new).objs.size := by rw [Heap.size_push]; exact Nat.ne_of_lt (Nat.lt_succ_of_lt lS)
        have off : s.heap.objs.size ∉ [(s.heap.push new).objs.size, l] := by
          rw [Heap.size_push]; intro h
          rcases List.mem_cons.mp h with h | h
          · exact absurd h (Nat.ne_of_lt (Nat.lt_succ_self _))
          · exact absurd (List.mem_singleton.mp h) (Nat.ne_of_gt lS)
        have sz : its.size = xs.length := by rw [← ints_len2 hi, Array.length_toList]
        have val : ∀ (i : Nat) (v : Value), its[i]? = some v → ∃ k t, xs[i]? = some k ∧ v = Value.int k t := fun i v hv => by
          have lt : i < xs.length := by rw [← sz]; exact (Array.getElem?_eq_some_iff.mp hv).1
          obtain ⟨t, e⟩ := ints_at2 hi i v (by rw [Array.getElem?_toList]; exact hv)
          exact ⟨_, t, by rw [List.getElem?_eq_getElem lt, List.getD_eq_getElem?_getD, List.getElem?_eq_getElem lt]; rfl, e⟩
        refine ix_loop ((Walks.list hA3 _ l ne its).toS) off xs sz hb val (its.size - 0) 0 _ (by omega) (Nat.zero_le _) ⟨⟨_, Heap.get?_push_size _ rfl, rfl, rfl⟩, l1.push _⟩ (ix_fresh (Heap.get?_push_of_some _ nS)) fun z hm hS => ?_
        obtain ⟨h', g2, d', tk', os'⟩ := z
        obtain rfl : g2 = s.gens := hm.gens
        obtain rfl : d' = s.drawn := hm.drawn
        obtain rfl : os' = s.os := hm.os
        show wpAny _ _ _ _ _ _
        refine wpAny_pure ?_; show wpAny _ _ (ret Value.none) _ _ _
        refine wpAny_pure ⟨rfl, h', tk', rfl, hS, fun b o e => ?_⟩
        have hlt := Heap.lt_size e
        refine hm.heap b o (fun z => ?_) (Heap.get?_push_of_some _ (Heap.get?_push_of_some _ e))
        rcases List.mem_cons.mp z with z | z
        · exact absurd z (Nat.ne_of_lt hlt)
        · have z2 := List.mem_singleton.mp z; rw [Heap.size_push] at z2; exact absurd z2 (Nat.ne_of_lt (Nat.lt_succ_of_lt hlt))
      · cases r2 with
        | error e => exact hr2
        | ok fl2 =>
          cases fl2 with
          | ret r =>
            obtain ⟨rfl, h', tk, rfl, hS', hk'⟩ := hr2
            repeat (any_goals (first | assumption | wp_step))
            exact h _ _ hS' hk'
          | _ => exact hr2.elim
    | _ => exact hr.elim

theorem ix_sorted {Q : Value → Shared → Prop} (R : IxS w s.heap a ks) (hh : A.handled = none)
    (hQ : ∀ s' p (out : Array Value) (c : Nat) (ns : List Int), (∀ b o, s.heap.get? b = some o → s'.heap.get? b = some o) → s'.gens = s.gens → s'.os = s.os → s.heap.objs.size ≤ p →
      s'.heap.get? p = some (seqObj "list" out c) → IntsAre out.toList ns → ns.Pairwise (· < ·) → (∀ k, k ∈ ns ↔ k ∈ ks) → ns.length = ks.length → Q (.ref p) s') :
    wpAny (model P w) A (call (.builtin "sorted") [.ref a]) Q E s := by
  obtain ⟨o, es, ep, t, ho, hex, hd, g, nd, hm, hb, hf, hn, hr, hl⟩ := R
  refine Calls.call_function_entry kind_sorted plain_sorted entry_sorted (args_sorted1 _) ?_
  unfold Builtin.«sorted»
  refine wpAny_bind (m := checkCount "sorted" 1 1 _) (wpAny_pure ?_)
  refine wpAny_bind (collect_set (A := A.in1) hh ⟨o, ho, hex.1, hd⟩ hf hb hr hl fun s1 vs k1 hz g1 o1 pm => ?_)
  have hvl : vs.length = ks.length := by rw [pm.length_eq, List.length_map, Array.length_toList]; exact hn
  have hI : IntsAre vs (vs.map Builtin.Re.reRawOf) := ints_of vs fun v hv => by
    obtain ⟨e, he, q⟩ := List.mem_map.mp (pm.mem_iff.mp hv)
    obtain ⟨k, tk, h1, _⟩ := g e he
    exact ⟨k, tk, by rw [← q]; exact h1⟩
  have pk : (vs.map Builtin.Re.reRawOf).Perm (es.toList.map keyOf) := by
    have q := pm.map Builtin.Re.reRawOf
    rw [List.map_map] at q
    exact q
  have hsz : vs.length ≤ sizeLine := by
    have : es.size < 4096 := hb
    exact Nat.le_trans (show vs.length ≤ 4096 by omega) (sz_le (by decide))
  refine wpAny_bind (wpAny_newList ?_ hsz)
  have hoL : (s1.heap.push (seqObj "list" vs.toArray 0)).get? s1.heap.objs.size = some (seqObj "list" vs.toArray 0) := Heap.get?_push_size _ rfl
  refine wpAny_bind (wpAny_holding (wpAny_call_entry slot_list_sort ⟨_, hoL, rfl⟩ entry_list_sort (SrtO.list_sort_ord SrtO.swo_int hoL hsz (fun h2 => SrtO.ints_sortable hI h2) fun out hs hbb => ⟨_, rfl, ?_⟩) (args_list_sort _)))
  obtain ⟨a1, a2, a3⟩ := SrtO.ints_out hI hs hbb
  obtain ⟨c, hc⟩ := sortedHeap_at (vs := vs) (out := out.toArray) hoL
  have pn : (out.map SrtO.iv).Perm (es.toList.map keyOf) := a2.trans pk
  refine wpAny_pure ⟨_, rfl, hQ _ s1.heap.objs.size out.toArray c (out.map SrtO.iv) (fun b u e => ?_) g1 o1 hz hc (by simpa using a1) (lt_of_le_nodup _ a3 (pn.nodup_iff.mpr nd)) (fun k => by rw [pn.mem_iff, ← hm k]; exact decide_eq_true_iff) ?_⟩
  · have q := k1 b u e
    have hlt := Heap.lt_size q
    show (sortedHeap (s1.heap.push (seqObj "list" vs.toArray 0)) s1.heap.objs.size vs out.toArray).get? b = some u
    rw [sortedHeap_old (Nat.ne_of_lt hlt) (by rw [size_push']; exact Nat.lt_succ_of_lt hlt)]
    exact Heap.get?_push_of_some _ q
  · rw [pn.length_eq, List.length_map, Array.length_toList]; exact hn
end
section
variable {X : Cx} {K : PySem.W.Frag} {a : Expr} {ta : TE} {ta2 : TE2} {p p2 q pos : Pos} {ρ : Env2} {μ : Mu} {Q : DK}
def tSSI (K : PySem.W.Frag) (ta : TE) : TE := fun σ H Q => ta σ H fun x H1 => ∃ (l : Addr) (xs : List Int), x = .ref l ∧ SqL K H1 l (xs.map V.int) ∧ xs.length ≤ 4000 ∧ ∀ (p : Addr) (ns : List Int), H1 p = none → ns.Pairwise (· < ·) → (∀ k, k ∈ ns ↔ k ∈ xs) → Q (.ref p) (upd H1 p (.lst (ns.map V.int)))
theorem pe_sortedSetI (hc : X.calm = true) (hg : Gl X "sorted") (hm : X.mg "sorted" = none) (hg2 : Gl X "set") (hm2 : X.mg "set" = none) (ha : PE X a ta) (hv : bootBuiltins "sorted" = some (.builtin "sorted") := by decide +kernel) (hv2 : bootBuiltins "set" = some (.type "set") := by decide +kernel)
    (na : starEach [a] X.env = (false, eval a X.env) :: starEach [] X.env := by rfl) : PE X (.Call (.Name "sorted" p) [.Call (.Name "set" p2) [a] [] q] [] pos) (tSSI X.K ta) := by
  refine ⟨fun pins s σ H Q I h => ?_⟩
  refine Call_ (ld_blt I hg hm hv ?_)
  refine PyProof.Rows.callWith_builtin1 (PyProof.Rows.args_cons ?_ rfl) rfl rfl
  refine Call_ (ld_blt I hg2 hm2 hv2 ?_)
  refine PyProof.Rows.callWith_type1 (PyProof.Rows.args_cons (thn (ha.run pins s σ H _ I h) fun v s1 ⟨x, H1, I1, r1, q1⟩ => PyProof.Rows.args_nil ?_) na) na rfl
  obtain ⟨l, xs, rfl, hq, h64, q1⟩ := q1
  cases r1
  obtain ⟨its, r, pl, hz⟩ := I1.list hq
  have hA := I1.ok.hd hc
  refine ix_set hA pl.isList (by simpa using r.ints) (by unfold scanBound; omega) fun h' tk R k1 => PyProof.Rows.args_nil ?_
  have len : (xs.foldl ddI []).length ≤ 4000 := by
    have := ddsI_len xs []; rw [List.length_nil] at this; omega
  refine ix_sorted (s := { s1 with heap := h', toks := tk }) R hA fun z pp out c ss k g o hp hgt hi pm hs hsl => ?_
  have kk : ∀ b u, s1.heap.get? b = some u → z.heap.get? b = some u := fun b u e => k b u (k1 b u e)
  have hp1 : s1.heap.objs.size ≤ pp := by
    have hlt : s1.heap.objs.size < h'.objs.size := by
      obtain ⟨o, _, _, _, ho, _⟩ := R
      exact Heap.lt_size ho
    exact Nat.le_trans (Nat.le_of_lt hlt) hp
  have hn : H1 pp = none := I1.hok.fresh hp1
  have hlen : (ss.map V.int).length ≤ sizeLine := by
    rw [List.length_map, hsl]
    exact Nat.le_trans len (sz_le (by decide))
  have J : Inv X pins σ (upd H1 pp (.lst (ss.map V.int))) { s1 with heap := z.heap, gens := z.gens, drawn := z.drawn, toks := z.toks } :=
    I1.call (ch := []) (Un.laid kk hp1 hn) (I1.hok.laid kk hp1 ⟨hlen, out.toList, c, vals_of_ints hi, hgt⟩) (by rw [g]; exact I1.bare) (fun _ z => nomatch z)
  have e : z = { s1 with heap := z.heap, gens := z.gens, drawn := z.drawn, toks := z.toks } := by
    obtain ⟨zh, zg, zd, zt, zo⟩ := z
    cases (show zo = s1.os from o); rfl
  rw [e]
  exact ⟨.ref pp, _, J, rfl, q1 pp ss hn pm fun k => by rw [hs k, ddsI_mem]; simp⟩
def dSSI (ta2 : TE2) : TE2 := fun ρ μ Q => ta2 ρ μ fun x μ1 => ∃ xs : List Int, asL μ1 x = some (xs.map D.int) ∧ xs.length ≤ 4000 ∧ ∀ (p : Addr) (ns : List Int), μ1 p = none → ns.Pairwise (· < ·) → (∀ k, k ∈ ns ↔ k ∈ xs) → Q (.adr p) (mup μ1 p (.lst (ns.map D.int)))
def dSSIK (Q : DK) : DK := fun x μ1 => ∃ xs : List Int, asL μ1 x = some (xs.map D.int) ∧ xs.length ≤ 4000 ∧ ∀ (p : Addr) (ns : List Int), μ1 p = none → ns.Pairwise (· < ·) → (∀ k, k ∈ ns ↔ k ∈ xs) → Q (.adr p) (mup μ1 p (.lst (ns.map D.int)))
instance st_ssI : Step (dSSI ta2 ρ μ Q) (ta2 ρ μ (dSSIK Q)) := ⟨fun q => q⟩
theorem w_ssIK {x : D} {xs : List Int} (h : asL μ x = some (xs.map D.int)) (l : xs.length ≤ 4000) (q : ∀ (p : Addr) (ns : List Int), μ p = none → ns.Pairwise (· < ·) → (∀ k, k ∈ ns ↔ k ∈ xs) → Q (.adr p) (mup μ p (.lst (ns.map D.int)))) : dSSIK Q x μ := ⟨xs, h, l, q⟩
theorem e_sortedSetI [Jx] (hc : X.calm = true) (hg : Gl X "sorted") (hm : X.mg "sorted" = none) (hg2 : Gl X "set") (hm2 : X.mg "set" = none) (ha : PE2 X a ta ta2) (hv : bootBuiltins "sorted" = some (.builtin "sorted") := by decide +kernel) (hv2 : bootBuiltins "set" = some (.type "set") := by decide +kernel)
    (na : starEach [a] X.env = (false, eval a X.env) :: starEach [] X.env := by rfl) : PE2 X (.Call (.Name "sorted" p) [.Call (.Name "set" p2) [a] [] q] [] pos) (tSSI X.K ta) (dSSI ta2) :=
  ⟨pe_sortedSetI hc hg hm hg2 hm2 ha.pe hv hv2 na, fun ρ μ Q2 q I σ H hA hS Q g => ha.re ρ μ _ q I σ H hA hS _ fun x μ1 v I1 H1 q1 a1 k1 r1 => by
    obtain ⟨xs, h1, h2, q1⟩ := q1
    obtain ⟨l, ws, rfl, h3, h4⟩ := asL_at a1 r1 h1
    rw [h4.ints_inv] at h3
    exact ⟨l, xs, rfl, SqL.of h3, h2, fun p' ns c d1 d2 => (g.past k1) _ _ _ _ _ (q1 p' ns (a1.noM c) d1 d2) (a1.got c ⟨_, rfl, RpA.ints _⟩) (Kp.got c) rfl⟩⟩
end
end Y

set_option Elab.async false
set_option linter.all false
set_option maxRecDepth 100000
set_option maxHeartbeats 4000000
namespace Y
open PySem PySem.Spec PyProof.Rows L2
/-! o.m() of a method that may raise -/
section
variable {X : Cx} {CX : CXT} {k j : Nat} {f C : Addr} {fd : FuncData} {ps : List Str} {m : Str} {p pos apos : Pos} {e o : Expr} {es : List Expr} {ta : TE} {t : TA}
theorem pe_methE0 {sp : Sp} {E : L2.St → XK} {pl : Sem Bool} (he : PE X o ta) (c : Cls X.K C) (hm : Meth X.K C m f) (F : FnOk X.prog X.w X.K X.mg X.base CX k f fd ps sp) (hr : Room k X.A) (hb : Binds X.K fd ps []) (hx : ∀ σ, PassesAt CX X σ (E σ))
    (ht : eval (.Call (.Attribute o m apos) [] [] pos) X.env = (do
      let ov ← eval o X.env
      standAt apos.atName
      let (f, first) ← holding [ov] (getMethod ov m pl)
      callWith pos f first (backTo pos (starEach [] X.env)) (backToKw pos (keywordEach [] X.env))) := by rfl) :
    PE X (.Call (.Attribute o m apos) [] [] pos) (tMethE C m sp E ta tNil) := by
  refine ⟨fun pins s σ H Q I h => ?_⟩
  refine PySem.W.methodCall_KW (pl := pl) (thn (he.run pins s σ H _ I h) fun u s1 ⟨x, H1, I1, rx, a, dx, fs, ex, ea, l, q⟩ => ?_) ht
  subst ex
  obtain rfl : u = Value.ref a := rx
  refine getmeth_ok I1 ea c hm l ?_
  exact PySem.W.callWith_K0 (first := [.ref a]) I1.kIn hm.kp (run_fnS (us := [.ref a]) (vs := [.ref a]) F hr hb (hx σ) I1 (.cons rfl .nil) q)
variable {to : TE} {to2 : TE2} {sp : Sp2} {W2 : Env2 → XK2} {W : WX}
theorem e_methX0 [Jx] {pl : Sem Bool} (F : DmX X.prog X.w X.K X.mg X.base C m j ps sp) (hw : Wl X W2 W) (hr : Room k X.A) (c : Cls X.K C) (ho : PE2 X o to to2) (hjk : j ≤ k := by first | decide | omega)
    (ht : eval (.Call (.Attribute o m apos) [] [] pos) X.env = (do
      let ov ← eval o X.env
      standAt apos.atName
      let (f, first) ← holding [ov] (getMethod ov m pl)
      callWith pos f first (backTo pos (starEach [] X.env)) (backToKw pos (keywordEach [] X.env))) := by rfl) :
    PE2 X (.Call (.Attribute o m apos) [] [] pos) (tMethE C m (toSp X.K sp) (WE W) to tNil) (dMethX C m sp W2 to2 dNil) := by
  obtain ⟨f, fd, F, hm, hb⟩ := F.of
  exact ⟨pe_methE0 ho.pe c hm F (hr.mono hjk) hb (passAt hw.tk) ht, re_methX hw ho.re (a_nil (X := X)).re⟩
theorem Tm.neverX {K : PySem.W.Frag} {P : Program} {w : World} {mg : Str → Option Value} {base : Heap} {q : Str} {st : Stmt} {N : List Str} (T : Tm K C m q st ps) (S : FnScope N ps (defScope st)) : DmX P w K mg base C m 1 ps (fun _ _ _ _ => False) :=
  T.okX S (fun _ _ _ _ h => h.elim) fun f cdv A outer s H E ds μ Q E2 hr hw hsp => hsp.elim
theorem Tx.neverX {K : PySem.W.Frag} {P : Program} {w : World} {mg : Str → Option Value} {base : Heap} {x : Str} {st : Stmt} {N : List Str} (T : Tx K mg x st ps) (S : FnScope N ps (defScope st)) : Dx P w K mg base x 1 ps (fun _ _ _ _ => False) :=
  T.okX S (fun _ _ _ _ h => h.elim) fun f cdv A outer s H E ds μ Q E2 hr hw hsp => hsp.elim
end
end Y

set_option Elab.async false
set_option linter.all false
set_option maxRecDepth 100000
set_option maxHeartbeats 4000000
namespace Y
open PySem PySem.Spec PyProof.Rows L2
/-! the run of the top in parts: less memory for each -/
/-- what is looked at behind the top's run -/
def ObEq {α : Type} (r : PySem.W.OpenRow) (ob : PySem.W.SharedT → α) (v : α) (M : Nat) (w : World) : Prop := ∀ os : OsState, (HandSHeadRun.endF (HandSHeadRun.stepQ (HandSHeadRun.denQ HandSHeadRun.tabQ) r.prog w) M r.prog w os).map ob = some v
section
variable {r : PySem.W.OpenRow} {q : Program} {M : Nat} {nm : List Str} {w : World} {n : Nat} {bs : List Fb} {fn fx : List He.FnD} {ts : List He.Tab}
theorem run_join {H : PySem.W.Hook} {ob : PySem.W.SharedT → H.α} (a : HandSHeadRun.RunEq r q PySem.W.Hook.none (fun _ => ()) M nm w) (b : ObEq r ob (H.val w) M w) : HandSHeadRun.RunEq r q H ob M nm w := by
  intro os
  have a1 := a os
  have b1 := b os
  cases e : HandSHeadRun.endF (HandSHeadRun.stepQ (HandSHeadRun.denQ HandSHeadRun.tabQ) r.prog w) M r.prog w os with
  | none => rw [e] at b1; cases b1
  | some s =>
    rw [e] at a1 b1
    rw [Option.map_some] at a1 b1 ⊢
    have a2 := Option.some.inj a1
    have b2 := Option.some.inj b1
    rw [b2]
    refine congrArg some ?_
    have a3 := congrArg (fun z => (z.1, z.2.1)) a2
    have a4 := Prod.mk.inj a3
    exact Prod.ext a4.1 (Prod.ext a4.2 rfl)
theorem ob_two {α β : Type} {f : PySem.W.SharedT → α} {g : PySem.W.SharedT → β} {γ : Type} {h : PySem.W.SharedT → γ} {a : α} {b : β} {c : γ} (k : ∀ s, f s = a → g s = b → h s = c) (x : ObEq r f a M w) (y : ObEq r g b M w) : ObEq r h c M w := by
  intro os
  have a1 := x os
  have b1 := y os
  cases e : HandSHeadRun.endF (HandSHeadRun.stepQ (HandSHeadRun.denQ HandSHeadRun.tabQ) r.prog w) M r.prog w os with
  | none => rw [e] at b1; cases b1
  | some s =>
    rw [e] at a1 b1
    exact congrArg some (k s (Option.some.inj a1) (Option.some.inj b1))
theorem obsY_cut {K : PySem.W.Frag} (k1 k2 : Nat) (a : obsY (bs.take k1) (fn.take k2) ts K = valY (fn.take k2) ts w) (b : obsY (bs.drop k1) (fn.drop k2) [] K = valY (fn.drop k2) [] w) : obsY bs fn ts K = valY fn ts w := by
  have a1 : ((bs.take k1).all (fun b => b K) && (fn.take k2).all fun d => defB K d) = true := congrArg (fun z : AlY => z.1) a
  have a2 : (fn.take k2).map (fun d => He.fnObs K d.at_) = (fn.take k2).map He.FnD.val := congrArg (fun z : AlY => z.2.1) a
  have a3 : (ts.map fun t => He.dicW K (t.1 K)) = ts.map fun t => some (He.keysIn w.params t.2) := congrArg (fun z : AlY => z.2.2) a
  have b1 : ((bs.drop k1).all (fun b => b K) && (fn.drop k2).all fun d => defB K d) = true := congrArg (fun z : AlY => z.1) b
  have b2 : (fn.drop k2).map (fun d => He.fnObs K d.at_) = (fn.drop k2).map He.FnD.val := congrArg (fun z : AlY => z.2.1) b
  have h1 : (bs.all (fun b => b K) && fn.all fun d => defB K d) = true := by
    obtain ⟨x1, x2⟩ := He.ba a1
    obtain ⟨y1, y2⟩ := He.ba b1
    conv => lhs; rw [← List.take_append_drop k1 bs, ← List.take_append_drop k2 fn]
    rw [List.all_append, List.all_append, x1, x2, y1, y2]; rfl
  have h2 : fn.map (fun d => He.fnObs K d.at_) = fn.map He.FnD.val := by
    conv => lhs; rw [← List.take_append_drop k2 fn]
    conv => rhs; rw [← List.take_append_drop k2 fn]
    rw [List.map_append, List.map_append, a2, b2]
  exact Prod.ext h1 (Prod.ext h2 a3)
theorem obY_cut {g : PySem.W.SharedT → Addr → Option Obj} (k1 k2 : Nat) (a : ObEq r (fun s => obsYG n (bs.take k1) (fn.take k2) ts (g s)) (valY (fn.take k2) ts w) M w) (b : ObEq r (fun s => obsYG n (bs.drop k1) (fn.drop k2) [] (g s)) (valY (fn.drop k2) [] w) M w) : ObEq r (fun s => obsYG n bs fn ts (g s)) (valY fn ts w) M w :=
  ob_two (fun s x y => obsY_cut k1 k2 x y) a b
theorem obsZ_cut {K : PySem.W.Frag} (k1 k2 : Nat) (a : obsY (bs.take k1) (fn.take k2) ts K = valY (fn.take k2) ts w) (b : obsZ (bs.drop k1) (fn.drop k2) [] fx K = valZ (fn.drop k2) [] fx w) : obsZ bs fn ts fx K = valZ fn ts fx w :=
  by
  have c1 : obsY (bs.drop k1) (fn.drop k2) [] K = valY (fn.drop k2) [] w := congrArg (fun z : AlZ => z.1) b
  have c2 : (obsZ (bs.drop k1) (fn.drop k2) [] fx K).2 = (valZ (fn.drop k2) [] fx w).2 := congrArg (fun z : AlZ => z.2) b
  have c3 : (obsZ bs fn ts fx K).2 = (valZ fn ts fx w).2 := c2
  exact Prod.ext (obsY_cut k1 k2 a c1) c3
theorem obZ_cut {g : PySem.W.SharedT → Addr → Option Obj} (k1 k2 : Nat) (a : ObEq r (fun s => obsY (bs.take k1) (fn.take k2) ts (frZ (g s) n)) (valY (fn.take k2) ts w) M w) (b : ObEq r (fun s => obsZG n (bs.drop k1) (fn.drop k2) [] fx (g s)) (valZ (fn.drop k2) [] fx w) M w) : ObEq r (fun s => obsZG n bs fn ts fx (g s)) (valZ fn ts fx w) M w :=
  ob_two (fun s x y => obsZ_cut k1 k2 x y) a b
end
end Y

set_option Elab.async false
set_option linter.all false
set_option maxRecDepth 100000
set_option maxHeartbeats 4000000
namespace Y
open PySem PySem.Spec PyProof.Rows L2
/-! lists of lists stay from now on; sorted of many whole numbers; len of a dict; o[i] within a tuple of targets -/
def mdels (μ : Mu) (bs : List Addr) : Mu := fun a => if a ∈ bs then none else μ a
theorem mdels_nil {μ : Mu} : mdels μ [] = μ := by funext a; unfold mdels; rw [if_neg (by simp)]
theorem mdels_cons {μ : Mu} {b : Addr} {bs : List Addr} : mdels (mdel μ b) bs = mdels μ (b :: bs) := by
  funext a; unfold mdels mdel
  by_cases h : a ∈ bs
  · rw [if_pos h, if_pos (List.mem_cons_of_mem _ h)]
  · rw [if_neg h]
    by_cases e : a = b
    · rw [if_pos e, if_pos (by rw [e]; exact List.mem_cons_self)]
    · rw [if_neg e, if_neg (fun z => (List.mem_cons.mp z).elim e h)]
theorem mdels_last {μ : Mu} {b : Addr} {bs : List Addr} : mdel (mdels μ bs) b = mdels μ (b :: bs) := by
  funext a; unfold mdels mdel
  by_cases e : a = b
  · rw [if_pos e, if_pos (by rw [e]; exact List.mem_cons_self)]
  · rw [if_neg e]
    show (if a ∈ bs then none else μ a) = _
    by_cases h : a ∈ bs
    · rw [if_pos h, if_pos (List.mem_cons_of_mem _ h)]
    · rw [if_neg h, if_neg (fun z => (List.mem_cons.mp z).elim e h)]
theorem mdels_not {μ : Mu} {a : Addr} {bs : List Addr} (h : a ∉ bs) : mdels μ bs a = μ a := if_neg h
theorem mdels_in {μ : Mu} {a : Addr} {bs : List Addr} (h : a ∈ bs) : mdels μ bs a = none := if_pos h
theorem frzs {K : PySem.W.Frag} {H : Hp} : ∀ (bs : List Addr) (ls : List (List D)) {μ : Mu} {I : Hp}, At0 K μ I H → bs.length = ls.length → (∀ (k : Nat) (b : Addr) (l : List D), bs[k]? = some b → ls[k]? = some l → μ b = some (.lst l)) → bs.Nodup →
    ∃ I', At0 K (mdels μ bs) I' H ∧ Kp I μ H I' (mdels μ bs) H ∧ RpA K I' (ls.map D.lst) (bs.map V.ref)
  | [], [], μ, I, a, _, _, _ => ⟨I, by rw [mdels_nil]; exact a, by rw [mdels_nil]; exact Kp.refl, rfl⟩
  | [], _ :: _, _, _, _, h, _, _ => by cases h
  | _ :: _, [], _, _, _, h, _, _ => by cases h
  | b :: bs, l :: ls, μ, I, a, hl, hm, nd => by
    obtain ⟨hI, o, ho, vs, rfl, hr⟩ := a.own b _ (hm 0 b l rfl rfl)
    have nd2 := List.nodup_cons.mp nd
    have hb := hm 0 b l rfl rfl
    obtain ⟨I', a', k', r'⟩ := frzs bs ls (a.frz hb ho) (Nat.succ.inj hl) (fun k c m h1 h2 => by
      rw [mdel_ne (fun z : c = b => nd2.1 (z ▸ List.mem_of_getElem? h1))]
      exact hm (k + 1) c m (by simpa using h1) (by simpa using h2)) nd2.2
    rw [mdels_cons] at a' k'
    exact ⟨I', a', (Kp.frz hb hI).trans k', _, _, rfl, ⟨b, vs, rfl, k'.ex _ _ upd_same, (hr.mono (Exx.new hI)).mono k'.ex⟩, r'⟩
theorem adrs_inv {K : PySem.W.Frag} {I : Hp} : ∀ {bs : List Addr} {vs : List V}, RpA K I (bs.map D.adr) vs → vs = bs.map V.ref
  | [], _, h => h
  | _ :: _, _, ⟨v, r, h1, h2, h3⟩ => by
    subst h1
    rw [show v = _ from h2, adrs_inv h3]; rfl
section
variable {X : Cx} {K : PySem.W.Frag} {e o i : Expr} {te to ti : TE} {te2 to2 ti2 : TE2} {tl : TA} {tl2 : TA2} {ρ : Env2} {μ : Mu} {Q : DK} {p pos apos : Pos}
def dFzPK (Q : DK) : DK := fun d μ1 => ∃ (p : Addr) (bs : List Addr) (ls : List (List D)), d = .adr p ∧ μ1 p = some (.lst (bs.map D.adr)) ∧ bs.length = ls.length ∧ (∀ (k : Nat) (b : Addr) (l : List D), bs[k]? = some b → ls[k]? = some l → μ1 b = some (.lst l)) ∧ (p :: bs).Nodup ∧ Q (.lst (ls.map D.lst)) (mdels μ1 (p :: bs))
def dFzP (t : TE2) : TE2 := fun ρ μ Q => t ρ μ (dFzPK Q)
instance st_fzP : Step (dFzP te2 ρ μ Q) (te2 ρ μ (dFzPK Q)) := ⟨fun q => q⟩
theorem w_fzP {p : Addr} {bs : List Addr} {ls : List (List D)} (h : μ p = some (.lst (bs.map D.adr))) (l : bs.length = ls.length) (h2 : ∀ (k : Nat) (b : Addr) (l : List D), bs[k]? = some b → ls[k]? = some l → μ b = some (.lst l)) (nd : (p :: bs).Nodup) (q : Q (.lst (ls.map D.lst)) (mdels μ (p :: bs))) : dFzPK Q (.adr p) μ := ⟨p, bs, ls, rfl, h, l, h2, nd, q⟩
theorem e_fzP [Jx] (h : PE2 X e te te2) : PE2 X e te (dFzP te2) :=
  ⟨h.pe, fun ρ μ Q2 q I σ H hA hS Q g => h.re ρ μ _ q I σ H hA hS _ fun d μ1 v I1 H1 q1 a1 k1 r1 => by
    obtain ⟨p, bs, ls, rfl, hp, hl, hm, nd, q1⟩ := q1
    have nd2 := List.nodup_cons.mp nd
    obtain ⟨I2, a2, k2, r2⟩ := frzs bs ls a1.toAt0 hl hm nd2.2
    have hp2 : mdels μ1 bs p = some (.lst (bs.map D.adr)) := (mdels_not nd2.1).trans hp
    obtain ⟨hI, ob, ho, vs, rfl, hr⟩ := a2.own p _ hp2
    have a3 := a2.frz hp2 ho
    have k3 : Kp I2 (mdels μ1 bs) H1 (upd I2 p (.lst vs)) (mdel (mdels μ1 bs) p) H1 := Kp.frz hp2 hI
    rw [mdels_last] at a3 k3
    have kk := k2.trans k3
    refine g _ _ _ _ _ q1 (a3.up a1 kk) (k1.trans kk) ⟨p, vs, r1, upd_same, ?_⟩
    rw [adrs_inv hr]
    exact r2.mono (Exx.new hI)⟩
/-! ### sorted of whole numbers, as many as there are -/
def dSortI : DRC := fun xs μ Q => ∃ (x : D) (ns : List Int), xs = [x] ∧ asL μ x = some (ns.map D.int) ∧ ∀ (ns' : List Int) (p : Addr), ns'.Perm ns → ns'.Pairwise (· ≤ ·) → μ p = none → Q (.adr p) (mup μ p (.lst (ns'.map D.int)))
theorem w_sortI {x : D} (ns : List Int) (h : asL μ x = some (ns.map D.int)) (q : ∀ (ns' : List Int) (p : Addr), ns'.Perm ns → ns'.Pairwise (· ≤ ·) → μ p = none → Q (.adr p) (mup μ p (.lst (ns'.map D.int)))) : dSortI [x] μ Q := ⟨x, ns, rfl, h, q⟩
theorem e_sortI [Jx] (hg : Gl X "sorted") (hm : X.mg "sorted" = none) (ha : PA2 X [e] tl tl2) (hv : bootBuiltins "sorted" = some (.builtin "sorted") := by decide +kernel) (he : starEach [e] X.env = (false, eval e X.env) :: starEach [] X.env := by rfl) : PE2 X (.Call (.Name "sorted" p) [e] [] pos) (tCB (rSortedI X.K) tl) (dCB dSortI tl2) :=
  e_cb cr_sortedI (fun xs μ Q2 q I H vs hA r Q k => by
    obtain ⟨x, ns, rfl, h, q⟩ := q
    obtain ⟨v, rfl, e⟩ := r.one_inv
    obtain ⟨p, ws, rfl, h3, h4⟩ := asL_at hA e h
    rw [h4.ints_inv] at h3
    exact ⟨p, ns, rfl, SqL.of h3, fun ns' p' a b c => k _ _ _ _ _ (q ns' p' a b (hA.noM c)) (hA.got c ⟨_, rfl, RpA.ints ns'⟩) (Kp.got c) rfl⟩) hg hm hv ha (he := he)
/-! ### len of a dict -/
def dLenD : DRC := fun xs μ Q => ∃ (a : Addr) (kvs : List (Key × D)), xs = [.adr a] ∧ μ a = some (.dk kvs) ∧ Q (.int (kvs.length : Nat)) μ
theorem w_lenD {a : Addr} {kvs : List (Key × D)} (h : μ a = some (.dk kvs)) (q : Q (.int (kvs.length : Nat)) μ) : dLenD [.adr a] μ Q := ⟨a, kvs, rfl, h, q⟩
theorem e_lenD [Jx] (hg : Gl X "len") (hm : X.mg "len" = none) (ha : PA2 X [e] tl tl2) (he : starEach [e] X.env = (false, eval e X.env) :: starEach [] X.env := by rfl) : PE2 X (.Call (.Name "len" p) [e] [] pos) (tCB (fun xs H Q => ∃ a kvs, xs = [V.ref a] ∧ H a = some (.dK kvs) ∧ Q (.int kvs.length) H) tl) (dCB dLenD tl2) :=
  e_cb call_lenD (fun xs μ Q2 q I H vs hA r Q k => by
    obtain ⟨a, kvs, rfl, h, q⟩ := q
    obtain ⟨v, rfl, e⟩ := r.one_inv
    cases (show v = _ from e)
    obtain ⟨hvs, hH, rk⟩ := at_dk hA h
    refine ⟨a, hvs, rfl, hH, ?_⟩
    rw [← rpK_length rk]
    exact k _ _ _ _ _ q hA Kp.refl rfl) hg hm PySem.boot_len ha (he := he)
/-! ### o[i] as one of several targets -/
theorem g_ix [Jx] {i : Expr} (ho : PE2 X o to to2) (hi : PE2 X i ti ti2) (mo : MonoE to) (mi : MonoE ti)
    (ha : ∀ v, assign (.Subscript o i pos) X.env v = (do
      let ov ← holding [v] (eval o X.env)
      let iv ← holding [v, ov] (eval i X.env)
      standAt pos
      holding [v, ov, iv] (setItem ov iv v)
      release [v, ov, iv] []) := by intro _; rfl) : PG2 X (.Subscript o i pos) (gSub to ti rSetL) (gIx to2 ti2) [] :=
  ⟨pg_sub ho.pe hi.pe set_list ha, re_gIx ho.re hi.re, fun v σ H Q Q' h q => mo σ H _ _ (fun x H1 q => mi σ H1 _ _ (fun y H2 q => by
    obtain ⟨p, xs, k, j, e1, e2, e3, e4, q⟩ := q
    exact ⟨p, xs, k, j, e1, e2, e3, e4, h _ _ rfl (fun _ _ => rfl) q⟩) q) q⟩
end
section
variable {g : TG2} {ts2 : TS2} {n b c : Env2 → Mu → Prop} {r : DK} {G : Mu → Prop} {tt2 : TT2} {te2 : TE2} {Q : DK} {ρ : Env2} {μ : Mu}
/-- by what was walked so far, the things themselves -/
theorem w_turnsIi {xs : List D} (Iv : List D → Env2 → Mu → Prop) (hG : ∀ dn ρ μ, Iv dn ρ μ → G μ)
    (hs : ∀ dn x rs, xs = dn ++ x :: rs → ∀ ρ μ, Iv dn ρ μ → ∀ N : Env2 → Mu → Prop, (∀ ρ μ, Iv (dn ++ [x]) ρ μ → N ρ μ) → g x ρ μ fun ρ2 μ2 => ts2 ⟨Cl N, r, n, Cl N⟩ ρ2 μ2)
    (hd : ∀ ρ μ, Iv xs ρ μ → n ρ μ) : ∀ ρ μ, Iv [] ρ μ → dTurns G g ts2 ⟨n, r, b, c⟩ xs ρ μ := by
  have h := w_turnsI (b := b) (c := c) id (l := xs) Iv hG hs hd
  rw [List.map_id] at h
  exact h
theorem w_turnsEi {xs : List D} (Iv : List D → Env2 → Mu → Prop) (hG : ∀ dn ρ μ, Iv dn ρ μ → G μ)
    (hs : ∀ dn x rs, xs = dn ++ x :: rs → ∀ ρ μ, Iv dn ρ μ → ∀ N : Env2 → Mu → Prop, (∀ ρ μ, Iv (dn ++ [x]) ρ μ → N ρ μ) → g (.tup [.int (dn.length : Nat), x]) ρ μ fun ρ2 μ2 => ts2 ⟨Cl N, r, n, Cl N⟩ ρ2 μ2)
    (hd : ∀ ρ μ, Iv xs ρ μ → n ρ μ) : ∀ ρ μ, Iv [] ρ μ → dTurns G g ts2 ⟨n, r, b, c⟩ (enuD 0 xs) ρ μ := by
  have h := w_turnsE (b := b) (c := c) id (l := xs) Iv hG hs hd
  rw [List.map_id] at h
  exact h
theorem w_lcMi {xs : List D} (h : D → D) (hG : G μ) (hl : xs.length < sizeLine)
    (hs : ∀ x ∈ xs, ∀ (N : DK) (N0 : Mu → Prop), N (h x) μ → g x ρ μ fun ρ2 μ2 => tt2 ρ2 μ2 (fun μ3 => te2 ρ2 μ3 N) N0)
    (hd : ∀ p, μ p = none → Q (.adr p) (mup μ p (.lst (xs.map h)))) : dLcs G g tt2 te2 ρ Q xs [] μ := by
  have k := w_lcM (tt2 := tt2) (te2 := te2) (g := g) (G := G) (ρ := ρ) id (l := xs) h hG hl hs hd
  rw [List.map_id] at k
  exact k
end
end Y

set_option Elab.async false
set_option linter.all false
set_option maxRecDepth 100000
set_option maxHeartbeats 4000000
namespace Y
open PySem PySem.Spec PyProof.Rows L2
/-! ### a block in which a token is out: name = text.replace(..).. -/
structure PSL2 [Jx] (X : Cx) (st : Stmt) (ts : TS) (t : TS2) : Prop where
  ps : PST X st ts
  re : RS X.K ts t
structure PSsL2 [Jx] (X : Cx) (st : List Stmt) (ts : TS) (t : TS2) : Prop where
  ps : PSsT X st ts
  re : RS X.K ts t
section
variable {X : Cx} {K : PySem.W.Frag} {e : Expr} {te : TE} {te2 : TE2} {pos : Pos} {x : Str} {st : Stmt} {sts : List Stmt} {ts tz : TS} {ts2 tz2 : TS2}
theorem PSsT.nox {t : TS} (h : PSsT X.nox sts t) : PSsT X sts t := fun pins s σ H D h0 I hw =>
  wpAny_mono (h pins s σ H D h0 (I.wish _) hw) (fun _ _ q => q.unwish) fun _ _ z => False.elim z
theorem bL_of [Jx] (h : PSs2 X sts ts ts2) : PSsL2 X sts ts ts2 := ⟨PSsT.of h.ps, h.re⟩
theorem bL_cons [Jx] (h : PS2 X st ts ts2) (h' : PSsL2 X sts tz tz2) : PSsL2 X (st :: sts) (tSeq ts tz) (dSeq ts2 tz2) :=
  ⟨psst_cons (PST.of h.ps) h'.ps, fun D2 ρ μ q I σ H hA hS D g => h.re _ ρ μ q I σ H hA hS _ ⟨fun ρ1 μ1 σ1 I1 H1 q1 a1 s1 k1 => h'.re D2 ρ1 μ1 q1 I1 σ1 H1 a1 s1 D (g.past k1), g.rt, g.bk, g.ct⟩⟩
theorem bL_consL [Jx] (h : PSL2 X st ts ts2) (h' : PSsL2 X sts tz tz2) : PSsL2 X (st :: sts) (tSeq ts tz) (dSeq ts2 tz2) :=
  ⟨psst_cons h.ps h'.ps, fun D2 ρ μ q I σ H hA hS D g => h.re _ ρ μ q I σ H hA hS _ ⟨fun ρ1 μ1 σ1 I1 H1 q1 a1 s1 k1 => h'.re D2 ρ1 μ1 q1 I1 σ1 H1 a1 s1 D (g.past k1), g.rt, g.bk, g.ct⟩⟩
theorem bL_consC [Jx] (h : PS2 X st ts ts2) (h' : PSsL2 X sts tz tz2) : PSsL2 X (st :: sts) (tSeq ts tz) (dSeqC ts2 tz2) :=
  ⟨psst_cons (PST.of h.ps) h'.ps, fun D2 ρ μ q I σ H hA hS D g => h.re _ ρ μ q I σ H hA hS _ ⟨fun ρ1 μ1 σ1 I1 H1 q1 a1 s1 k1 => by
    obtain ⟨ρ2, μ2, sh, q2⟩ := q1
    obtain ⟨I2, a2, s2, k2⟩ := sh X.K I1 σ1 H1 a1 s1
    exact h'.re D2 ρ2 μ2 q2 I2 σ1 H1 a2 s2 D (g.past (k1.trans k2)), g.rt, g.bk, g.ct⟩⟩
theorem pst_set {i : Nat} {pos' : Pos} (hN : X.N.Nodup) (hi : X.N[i]? = some x) (hx : Loc X.env.scope x) (he : PET X e te) (hs : swapsWith e (some (.Name x pos')) pos.line X.env = pure false := by rfl) (hf : X.fn x = true ∨ X.env.scope.names.lookup x = some .local := by first | exact .inl rfl | exact .inr rfl | assumption) :
    PST X (.Assign [.Name x pos'] e pos) (tAsg te (gName i)) := by
  intro pins s σ H D h0 I h
  refine wpAny_Assign_Name (thn (he pins s σ H _ h0 I h) fun v s1 ⟨y, H1, I1, r1, q1⟩ => ?_) hs
  exact store_ok I1 hN hi hx r1 (fun s2 I2 => ⟨_, H1, I2, q1⟩) hf
theorem s_setL [Jx] {i : Nat} {pos' : Pos} (h : PEL2 X e te te2) (hN : X.N.Nodup) (hi : X.N[i]? = some x) (hx : Loc X.env.scope x) (hs : swapsWith e (some (.Name x pos')) pos.line X.env = pure false := by rfl) (hf : X.fn x = true ∨ X.env.scope.names.lookup x = some .local := by first | exact .inl rfl | exact .inr rfl | assumption) :
    PSL2 X (.Assign [.Name x pos'] e pos) (tAsg te (gName i)) (dAsg te2 (gN i)) := ⟨pst_set hN hi hx h.pe hs hf, re_asg h.re (re_gN i)⟩
theorem s_retL [Jx] (h : PEL2 X e te te2) : PSL2 X (.Return (some e) pos) (tRet te) (dRet te2) := ⟨CwR.pst_ret h.pe, fun D2 ρ μ q I σ H hA hS D g => h.re ρ μ _ q I σ H hA hS _ g.rt⟩
/-- THE RULE for a def whose body wants a token out: it has parameters, and no cell -/
theorem Tx.okL {P : Program} {w : World} {mg : Str → Option Value} {base : Heap} {N ps : List Str} {sp : Sp2} {k : Nat} (T : Tx K mg x st ps) (S : FnScope N ps (defScope st)) (len : ∀ ds μ Q E, sp ds μ Q E → ds.length = ps.length)
    (hb : ∀ [Jx] (f : Addr) (cdv : Value) (A : Around) (outer : List Env) (s : Shared) (H : Hp) (E : XK), Room k (A.deeper (envOfC x (defScope st) s.heap.objs.size f cdv)) →
      ∃ ts t, PSsL2 (cxOf CX0 P w K mg base N x (defScope st) f cdv A outer s H E).nox (defBody st) ts t ∧ ∀ ds μ Q E2, sp ds μ Q E2 → t { nx := fun _ μ' => RtC Q .non μ', rt := RtC Q } (start2 N ds) μ)
    (hnc : (defScope st).names.all (fun y => y.2 != .cell) = true := by decide +kernel) (hps : 1 ≤ ps.length := by decide) : Df P w K mg base x (k + 1) ps sp := by
  obtain ⟨f, fd, F, hm, hbd⟩ := T.of
  have F' := F
  obtain ⟨oc, od, kV, doc, pm, an, cdv, ct, osl, rfl, lk, hcd⟩ := F.ex
  refine ⟨f, _, fn_ofT lk hcd S (fun y hy e => ?_) hps (fun vs H Q E h => ?_) (fun A outer s H vs Q E hr h => ?_), hm, F.kp, hbd, ?_⟩
  · have := List.all_eq_true.mp hnc y hy
    rw [e] at this
    exact absurd this (by decide)
  · obtain ⟨ds, μ, I, Q2, E2, _, r, hsp, _⟩ := h
    rw [r.length]; exact len _ _ _ _ hsp
  · obtain ⟨ds, μ, I, Q2, E2, hA, r, hsp, g, gx⟩ := h
    letI := Jx.triv
    obtain ⟨ts, t, ht, hq⟩ := hb f cdv A outer s H E hr
    refine ⟨ts, PSsT.nox ht.ps, ht.re _ _ μ (hq ds μ Q2 E2 hsp) I _ H hA.triv (slots_start r) _ (@GoS.mk Jx.triv _ _ _ _ _ _ ?_ ?_ (fun _ _ _ _ _ h => h.elim) (fun _ _ _ _ _ h => h.elim))⟩
    · rintro ρ' μ' σ' I' H' ⟨d', μ2, sh, q⟩ a' s' k'
      obtain ⟨I2, a2, k2, r2⟩ := @sh Jx.triv K I' H' .non a' rfl
      exact g d' μ2 _ I2 H' q (@At.toAt0 Jx.triv _ _ _ _ a2) (k'.trans k2) r2
    · rintro d μ' v I' H' ⟨d', μ2, sh, q⟩ a' k' r'
      obtain ⟨I2, a2, k2, r2⟩ := @sh Jx.triv K I' H' v a' r'
      exact g d' μ2 _ I2 H' q (@At.toAt0 Jx.triv _ _ _ _ a2) (k'.trans k2) r2
  · exact ⟨oc, od, osl, lk⟩
/-! ### a tuple is a tuple -/
def RpLe (d d' : D) : Prop := ∀ (K : PySem.W.Frag) (I : Hp) (v : V), Rp K I d v → Rp K I d' v
theorem RpLe.refl {d : D} : RpLe d d := fun _ _ _ h => h
theorem RpLe.tun {ds : List D} : RpLe (.tun ds) (.tup ds) := fun K I v h => by
  obtain ⟨a, vs, e, ⟨o, ho, _⟩, r⟩ := h
  exact ⟨a, vs, e, .inl (.inr ⟨o, ho⟩), r⟩
def RpLs : List D → List D → Prop
  | [], [] => True
  | a :: r, b :: s => RpLe a b ∧ RpLs r s
  | _, _ => False
theorem RpLs.at {K : PySem.W.Frag} {I : Hp} : ∀ {a b : List D} {vs : List V}, RpLs a b → RpA K I a vs → RpA K I b vs
  | [], [], _, _, h => h
  | _ :: _, _ :: _, _, l, ⟨v, r, e, h1, h2⟩ => ⟨v, r, e, l.1 K I v h1, RpLs.at l.2 h2⟩
theorem RpLs.refl : ∀ {a : List D}, RpLs a a
  | [] => trivial
  | _ :: _ => ⟨RpLe.refl, RpLs.refl⟩
theorem RpLs.tup {a b : List D} (l : RpLs a b) : RpLe (.tup a) (.tup b) := fun K I v h => by
  obtain ⟨p, vs, e, h1, r⟩ := h
  exact ⟨p, vs, e, h1, l.at r⟩
theorem RtC.le {Q : DK} {d d' : D} {μ : Mu} (l : RpLe d d') (h : Q d' μ) : RtC Q d μ := ⟨d', μ, fun K I H v a r => ⟨I, a, Kp.refl, l K I v r⟩, h⟩
end
end Y

set_option Elab.async false
set_option linter.all false
set_option maxRecDepth 100000
set_option maxHeartbeats 4000000
namespace Y
open PySem PySem.Spec PyProof.Rows L2
/-! ### x in xs, the items data of any kind -/
def anyD (d : PyData) (xs : List PyData) : Bool := xs.any fun y => PyData.eqv y d
def rInD (K : PySem.W.Frag) (neg : Bool) : R2 := fun x y H Q => ∃ d xs, Dp K H x d ∧ (Dp K H y (.list xs) ∨ Dp K H y (.tuple xs)) ∧ d.canLay0 = true ∧ d.depth ≤ 63 ∧ PyData.canLayAll0 xs = true ∧ Q (.bl (if neg then !anyD d xs else anyD d xs)) H
section
variable {X : Cx} {K : PySem.W.Frag} {a b c e o : Expr} {ta tb : TE} {ta2 tb2 : TE2} {pos : Pos} {ρ : Env2} {μ : Mu} {Q : DK} {k : Nat}
theorem roomIn {A : Around} {xs : List PyData} {d : PyData} (hd : d.depth ≤ 63) (hu : A.units + 64 < cLine) : A.units + 1 + min (PyData.depthAll xs) d.depth < cLine := by
  have h2 : min (PyData.depthAll xs) d.depth ≤ d.depth := Nat.min_le_right _ _
  omega
theorem op_inD (hu : X.A.units + 64 < cLine) : OpR X (compareOp .In) (rInD X.K false) := by
  intro pins s σ H x y v u Q I rx ry h
  obtain ⟨d, xs, hd, he, c1, c2, c3, q⟩ := h
  obtain ⟨as, r1⟩ := Dp.reads I d x v hd rx
  rcases he with he | he
  · obtain ⟨bs, r2⟩ := Dp.reads I _ y u he ry
    exact SeqAt.in_list_reads r2 r1 c3 c1 (roomIn c2 hu) ⟨.bl _, H, I, rfl, q⟩
  · obtain ⟨bs, r2⟩ := Dp.reads I _ y u he ry
    exact SeqAt.in_tuple_reads r2 r1 c3 c1 (roomIn c2 hu) ⟨.bl _, H, I, rfl, q⟩
theorem op_notInD (hu : X.A.units + 64 < cLine) : OpR X (compareOp .NotIn) (rInD X.K true) := by
  intro pins s σ H x y v u Q I rx ry h
  obtain ⟨d, xs, hd, he, c1, c2, c3, q⟩ := h
  obtain ⟨as, r1⟩ := Dp.reads I d x v hd rx
  rcases he with he | he
  · obtain ⟨bs, r2⟩ := Dp.reads I _ y u he ry
    exact SeqAt.notIn_list_reads r2 r1 c3 c1 (roomIn c2 hu) ⟨.bl _, H, I, rfl, q⟩
  · obtain ⟨bs, r2⟩ := Dp.reads I _ y u he ry
    exact SeqAt.notIn_tuple_reads r2 r1 c3 c1 (roomIn c2 hu) ⟨.bl _, H, I, rfl, q⟩
/-- whether one of the items is alike -/
def D.ina (x : D) (ds : List D) : Bool := ds.any fun z => PyData.eqv z.py x.py
theorem pyA_map : ∀ ds : List D, D.pyA ds = ds.map D.py
  | [] => rfl
  | d :: ds => congrArg (List.cons d.py) (pyA_map ds)
theorem anyD_ina (x : D) (ds : List D) : anyD x.py (D.pyA ds) = x.ina ds := by
  unfold anyD D.ina
  rw [pyA_map, List.any_map]; rfl
def InDR (μ : Mu) (x y : D) (k : Bool) : Prop := D.shp 63 (rsv μ x) = true ∧ D.shp 64 (rsv μ y) = true ∧ ∃ ds, (rsv μ y = .lst ds ∨ rsv μ y = .tup ds) ∧ (rsv μ x).ina ds = k
def dInX : DR2 := fun x y μ Q => ∃ k, InDR μ x y k ∧ Q (.bl k) μ
def dNotInX : DR2 := fun x y μ Q => ∃ k, InDR μ x y k ∧ Q (.bl (!k)) μ
theorem InDR.un [Jx] {I H : Hp} {x y : D} {vx vy : V} {k : Bool} (h : InDR μ x y k) (hA : At K μ I H) (rx : Rp K I x vx) (ry : Rp K I y vy) {neg : Bool} {Q : VK} (q : Q (.bl (if neg then !k else k)) H) : rInD K neg vx vy H Q := by
  obtain ⟨h1, h2, ds, h3, h4⟩ := h
  have p1 := rsv_dp hA h1 rx
  have p2 := rsv_dp hA h2 ry
  obtain ⟨c1, c2⟩ := shp_py h1
  rcases h3 with h3 | h3
  · rw [h3] at h2 p2
    obtain ⟨c3, _⟩ := shpA_py (n := 63) (ds := ds) h2
    exact ⟨_, _, p1, .inl p2, c1, c2, c3, by rw [anyD_ina, h4]; exact q⟩
  · rw [h3] at h2 p2
    obtain ⟨c3, _⟩ := shpA_py (n := 63) (ds := ds) h2
    exact ⟨_, _, p1, .inr p2, c1, c2, c3, by rw [anyD_ina, h4]; exact q⟩
theorem rr_inX [Jx] : RR K (rInD K false) dInX := fun x y μ Q2 q I H vx vy hA rx ry Q k => by
  obtain ⟨b, h, q⟩ := q
  exact h.un hA rx ry (k _ _ _ _ _ q hA Kp.refl rfl)
theorem rr_notInX [Jx] : RR K (rInD K true) dNotInX := fun x y μ Q2 q I H vx vy hA rx ry Q k => by
  obtain ⟨b, h, q⟩ := q
  exact h.un hA rx ry (k _ _ _ _ _ q hA Kp.refl rfl)
theorem e_inX [Jx] (hr : Room k X.A) (ha : PE2 X a ta ta2) (hb : PE2 X b tb tb2) (hm : behindInMarks .In b = false) : PE2 X (.Compare a [.In] [b] pos) (tOp (rInD X.K false) ta tb) (dOp dInX ta2 tb2) := e_cmp (op_inD hr.units) rr_inX ha hb hm
theorem e_notInX [Jx] (hr : Room k X.A) (ha : PE2 X a ta ta2) (hb : PE2 X b tb tb2) (hm : behindInMarks .NotIn b = false) : PE2 X (.Compare a [.NotIn] [b] pos) (tOp (rInD X.K true) ta tb) (dOp dNotInX ta2 tb2) := e_cmp (op_notInD hr.units) rr_notInX ha hb hm
theorem t_inX [Jx] (hr : Room k X.A) (ha : PE2 X a ta ta2) (hb : PE2 X b tb tb2) (hm : behindInMarks .In b = false) : PT2 X (.Compare a [.In] [b] pos) (tTest (tOp (rInD X.K false) ta tb)) (dVal (dOp dInX ta2 tb2)) := t_cmp (op_inD hr.units) rr_inX ha hb hm
theorem t_notInX [Jx] (hr : Room k X.A) (ha : PE2 X a ta ta2) (hb : PE2 X b tb tb2) (hm : behindInMarks .NotIn b = false) : PT2 X (.Compare a [.NotIn] [b] pos) (tTest (tOp (rInD X.K true) ta tb)) (dVal (dOp dNotInX ta2 tb2)) := t_cmp (op_notInD hr.units) rr_notInX ha hb hm
theorem w_inX {x y : D} {ds : List D} {b : Bool} (h1 : D.shp 63 (rsv μ x) = true) (h2 : D.shp 64 (rsv μ y) = true) (h3 : rsv μ y = .lst ds ∨ rsv μ y = .tup ds) (h4 : (rsv μ x).ina ds = b) (q : Q (.bl b) μ) : dInX x y μ Q := ⟨_, ⟨h1, h2, ds, h3, h4⟩, q⟩
theorem w_notInX {x y : D} {ds : List D} {b : Bool} (h1 : D.shp 63 (rsv μ x) = true) (h2 : D.shp 64 (rsv μ y) = true) (h3 : rsv μ y = .lst ds ∨ rsv μ y = .tup ds) (h4 : (rsv μ x).ina ds = b) (q : Q (.bl (!b)) μ) : dNotInX x y μ Q := ⟨_, ⟨h1, h2, ds, h3, h4⟩, q⟩
/-- where the items are plain data -/
theorem ina_mem {x : D} {ds : List D} (hx : D.pln x = true) (hd : ∀ d ∈ ds, D.pln d = true) : x.ina ds = true ↔ x ∈ ds := by
  unfold D.ina
  rw [List.any_eq_true]
  constructor
  · rintro ⟨z, hz, h⟩
    rw [(eqv_pln (hd z hz) hx).mp h] at hz; exact hz
  · exact fun h => ⟨x, h, (eqv_pln hx hx).mpr rfl⟩
end
end Y

set_option Elab.async false
set_option linter.all false
set_option maxRecDepth 100000
set_option maxHeartbeats 4000000
namespace Y
open PySem PySem.Spec PyProof.Rows L2
/-! ### try with any number of clauses, each with a name or without -/
/-- an exception has come to the clauses -/
structure Ldg (X : Cx) (pins : List (Addr × Obj)) (σ : L2.St) (H : Hp) (a : Addr) (B : Heap) (sI : Shared) (cls : Value) (d : Option Addr) (s : Shared) : Prop where
  J : Inv X pins σ H sI
  nb : ∀ b o, sI.heap.get? b = some o → b ∉ frs X.stack → B.get? b = some o
  up : sI.heap.UpToSlots s.heap
  fl : HandSPX.FlyingZ B (X.env :: X.outer) a (Zc cls d) s.heap
  na : H a = none
  os : s.os = sI.os
  ag : AllBare s.gens
theorem Ldg.inv {X : Cx} {pins : List (Addr × Obj)} {σ : L2.St} {H : Hp} {a : Addr} {B : Heap} {sI s : Shared} {cls : Value} {d : Option Addr} (G : Ldg X pins σ H a B sI cls d s) : Inv X pins σ H s := G.J.landed G.nb G.fl.1 G.up G.os G.ag
/-- what clauses do with it -/
def Hdl (X : Cx) (hds : List ExceptHandler) (Wf : Ends → WX) : Prop := ∀ (pins : List (Addr × Obj)) (D : Ends) (σ : L2.St) (H : Hp) (a : Addr) (B : Heap) (sI : Shared) (cls : Value) (d : Option Addr) (s : Shared),
  Ldg X pins σ H a B sI cls d s → Wf D cls d σ H → wpAny (model X.prog X.w) X.A (handleBy (.ref a) X.env hds) (SP X pins D) X.xe s
section
variable {X : Cx} {hds : List ExceptHandler} {Wf : Ends → WX} {Wout : WX} {x n : Str} {c : Value} {i : Nat} {body suite : List Stmt} {b₀ : Stmt} {np pos pos' : Pos} {tb : WX → TS} {ts : Addr → Value → Option Addr → TS}
theorem Ldg.notf {pins : List (Addr × Obj)} {σ : L2.St} {H : Hp} {a : Addr} {B : Heap} {sI s : Shared} {cls : Value} {d : Option Addr} (G : Ldg X pins σ H a B sI cls d s) (hf : X.env.frame = some X.env.locals) : a ≠ X.env.locals ∧ a ∉ X.fs := by
  obtain ⟨oe, vs, he, hz, hd⟩ := G.fl.there
  have nfr : a ∉ frs (X.env :: X.outer) := fun hm => by
    obtain ⟨_, o', e', hnf⟩ := G.fl.2.2.1.mem hm
    rw [he] at e'; cases e'
    exact hnf _ hd
  refine ⟨fun z => nfr (List.mem_filterMap.mpr ⟨X.env, List.mem_cons_self, by rw [hf, z]⟩), fun hm => ?_⟩
  obtain ⟨e, he2, q⟩ := List.mem_filterMap.mp hm
  exact nfr (List.mem_filterMap.mpr ⟨e, List.mem_cons_of_mem _ he2, q⟩)
/-- no clause is left: it goes on -/
theorem hdl_nil (hs : X.stack = X.env :: X.outer) (hf : X.env.frame = some X.env.locals) (tk : Takes X Wout) : Hdl X [] fun _ => Wout := by
  intro pins D σ H a B sI cls d s G w
  have fl3 := G.fl
  refine wpAny_handleBy_nil ?_
  obtain ⟨k1, k2, k3, oe, vs, T, oT, ts', he, hz, hd, h1, hr⟩ := id fl3
  unfold PySem.passOn
  refine wpAny_bind (wpAny_field he hd h1 ?_)
  rw [if_neg (show ¬ ((Value.ref T == Value.none) = true) from by simp)]
  have fin : wpAny (model X.prog X.w) X.A (setFlight (.ref a) X.env.frame) (fun _ s4 => wpAny (model X.prog X.w) X.A (throw (.ref a) : Sem Flow) (SP X pins D) X.xe s4) X.xe s := by
    rw [hf]
    refine HandSPX.setFlight_upZ fl3 fun h4 hh4 up4 => wpAny_throw (tk _ _ ?_)
    exact ⟨a, B, sI, pins, σ, H, cls, d, rfl, G.J, G.nb, G.up.trans up4, .inr (.inr (by rw [hs]; exact hh4)), G.na, G.os, G.ag, w⟩
  first
    | exact wpAny_bind (wpAny_pure (wpAny_bind fin))
    | exact wpAny_bind fin
/-- what a clause's test tells -/
theorem hdl_test {pins : List (Addr × Obj)} {σ : L2.St} {H : Hp} {a : Addr} {B : Heap} {sI s : Shared} {cls : Value} {d : Option Addr} (G : Ldg X pins σ H a B sI cls d s) (hf : X.env.frame = some X.env.locals) (hc : Names X x c)
    {Q : Value → Shared → Prop} {E : Value → Shared → Prop} (q : Q c s) : wpAny (model X.prog X.w) (X.A.mark (some (.ref a))) (eval (.Name x np) X.env) Q E s := by
  obtain ⟨oe, vs, he, hz, hd⟩ := G.fl.there
  obtain ⟨nL, nF⟩ := G.notf hf
  have S := G.inv.suite he hd G.na nL nF
  obtain ⟨hg, hdbg, hm | ⟨hm, hv, hnn⟩⟩ := hc
  · exact ld_glob (X := X.suite a ((a, oe) :: (X.pn ++ pins))) S hg hm q hdbg
  · exact ld_blt (X := X.suite a ((a, oe) :: (X.pn ++ pins))) S hg hm hv q hnn hdbg
theorem hdl_as (hf : X.env.frame = some X.env.locals) (hN : X.N.Nodup) (hi : X.N[i]? = some n) (hln : X.env.kindOf n = some .local) (hc : Names X x c)
    (hsu : ∀ (a : Addr) (oe : Obj) (cls : Value) (d : Option Addr) (pn : List (Addr × Obj)), Zc cls d oe → (∃ vs, oe.data = .fields vs) → PSs (X.suite a ((a, oe) :: pn)) (b₀ :: suite) (ts a cls d)) (r : Hdl X hds Wf) :
    Hdl X (.ExceptHandler (some (.Name x np)) (some n) (b₀ :: suite) pos' :: hds) fun D => wAs X.K c i ts (Wf D) D := by
  intro pins D σ H a B sI cls d s G w
  have ok := G.J.ok
  obtain ⟨b, hb1, hyes, hno⟩ := w
  have fl3 := G.fl
  obtain ⟨oe3, vs3, he3, hz3, hd3⟩ := fl3.there
  obtain ⟨nL, nF⟩ := G.notf hf
  refine wpAny_handleBy_cons (codeAny_handlers_test ?_) (by intro q; cases q)
  have LT : PySem.W.Looks (model X.prog X.w) s.heap (typeOf (.ref a)) cls := fun A Q E s k q => wpAny_typeOf_ref (k _ _ he3) (by rw [hz3.1]; exact q)
  have LM := PySem.W.exm_one (M := model X.prog X.w) G.inv.kIn LT hb1
  refine hdl_test G hf hc (LM.here ?_)
  cases b with
  | true =>
    refine codeAny_handlers_suite_as ?_
    refine HandSPX.lands_againZ fl3 fun h4 fl4 up4 => ?_
    have J4 : Inv X pins σ H { s with heap := h4 } := G.J.landed G.nb fl4.1 (G.up.trans up4) G.os G.ag
    obtain ⟨oe4, vs4, he4, hz4, hd4⟩ := fl4.there
    have S4 := J4.suite he4 hd4 G.na nL nF
    refine store_ok (X := X.suite a ((a, oe4) :: (X.pn ++ pins))) (v := .ref a) S4 hN hi (.inl hln) rfl (fun s5 S5 => ?_) (.inr hln)
    refine wpAny_mono ((hsu a oe4 cls d (X.pn ++ pins) hz4 ⟨_, hd4⟩).run [] s5 _ H _ S5 (hyes rfl a G.na)) (fun f s6 hsp => ?_) (fun _ _ z => False.elim z)
    have end_ : ∀ {σ6 : L2.St} {H6 : Hp} {Q : Shared → Prop}, Inv (X.suite a ((a, oe4) :: (X.pn ++ pins))) [] σ6 H6 s6 → (∀ s7, Inv X pins (σ6.set i none) H6 s7 → Q s7) →
        wpAny (model X.prog X.w) X.A (do bindName X.env n .none; unbindBehindTheSuite X.env n pos') (fun _ s7 => Q s7) X.xe s6 := fun {σ6 H6 Q} S6 hq => gone_ok (S6.unsuite ok) hN hi hln hq
    cases f with
    | next => obtain ⟨σ6, H6, S6, q6⟩ := hsp; exact end_ S6 fun s7 J7 => ⟨_, _, J7, q6⟩
    | brk => obtain ⟨σ6, H6, S6, q6⟩ := hsp; exact end_ S6 fun s7 J7 => ⟨_, _, J7, q6⟩
    | cont => obtain ⟨σ6, H6, S6, q6⟩ := hsp; exact end_ S6 fun s7 J7 => ⟨_, _, J7, q6⟩
    | ret u => obtain ⟨v6, σ6, H6, S6, r6, q6⟩ := hsp; exact end_ S6 fun s7 J7 => ⟨_, _, _, J7, r6, q6⟩
  | false =>
    show wpAny _ X.A (handleBy (.ref a) X.env hds) _ _ _
    exact r pins D σ H a B sI cls d s G (hno rfl)
theorem hdl_only (hf : X.env.frame = some X.env.locals) (hc : Names X x c)
    (hsu : ∀ (a : Addr) (oe : Obj) (cls : Value) (d : Option Addr) (pn : List (Addr × Obj)), Zc cls d oe → (∃ vs, oe.data = .fields vs) → PSs (X.suite a ((a, oe) :: pn)) (b₀ :: suite) (ts a cls d)) (r : Hdl X hds Wf) :
    Hdl X (.ExceptHandler (some (.Name x np)) none (b₀ :: suite) pos' :: hds) fun D => wOnly X.K c ts (Wf D) D := by
  intro pins D σ H a B sI cls d s G w
  have ok := G.J.ok
  obtain ⟨b, hb1, hyes, hno⟩ := w
  have fl3 := G.fl
  obtain ⟨oe3, vs3, he3, hz3, hd3⟩ := fl3.there
  obtain ⟨nL, nF⟩ := G.notf hf
  refine wpAny_handleBy_cons (codeAny_handlers_test ?_) (by intro q; cases q)
  have LT : PySem.W.Looks (model X.prog X.w) s.heap (typeOf (.ref a)) cls := fun A Q E s k q => wpAny_typeOf_ref (k _ _ he3) (by rw [hz3.1]; exact q)
  have LM := PySem.W.exm_one (M := model X.prog X.w) G.inv.kIn LT hb1
  refine hdl_test G hf hc (LM.here ?_)
  cases b with
  | true =>
    refine codeAny_handlers_suite ?_
    refine HandSPX.lands_againZ fl3 fun h4 fl4 up4 => ?_
    have J4 : Inv X pins σ H { s with heap := h4 } := G.J.landed G.nb fl4.1 (G.up.trans up4) G.os G.ag
    obtain ⟨oe4, vs4, he4, hz4, hd4⟩ := fl4.there
    have S4 := J4.suite he4 hd4 G.na nL nF
    refine wpAny_mono ((hsu a oe4 cls d (X.pn ++ pins) hz4 ⟨_, hd4⟩).run [] _ _ H _ S4 (hyes rfl a G.na)) (fun f s6 hsp => ?_) (fun _ _ z => False.elim z)
    cases f with
    | next => obtain ⟨σ6, H6, S6, q6⟩ := hsp; exact ⟨_, _, S6.unsuite ok, q6⟩
    | brk => obtain ⟨σ6, H6, S6, q6⟩ := hsp; exact ⟨_, _, S6.unsuite ok, q6⟩
    | cont => obtain ⟨σ6, H6, S6, q6⟩ := hsp; exact ⟨_, _, S6.unsuite ok, q6⟩
    | ret u => obtain ⟨v6, σ6, H6, S6, r6, q6⟩ := hsp; exact ⟨_, _, _, S6.unsuite ok, r6, q6⟩
  | false =>
    show wpAny _ X.A (handleBy (.ref a) X.env hds) _ _ _
    exact r pins D σ H a B sI cls d s G (hno rfl)
theorem ps_try_hdl {h₀ : ExceptHandler} (hs : X.stack = X.env :: X.outer) (hf : X.env.frame = some X.env.locals)
    (hb : ∀ (W : WX) (pn : List (Addr × Obj)) (xe : Value → Shared → Prop), Takes (X.tr pn xe) W → PassesOwn (model X.prog X.w) X.A X.env xe → PSs (X.tr pn xe) body (tb W))
    (r : Hdl X (h₀ :: hds) Wf) : PS X (.Try body (h₀ :: hds) [] [] pos) (fun D σ H => tb (Wf D) D σ H) := by
  refine ⟨fun pins s σ H D I h => ?_⟩
  have ok := I.ok
  have hfr : X.A.frames = some (X.env :: X.outer) := by rw [ok.frames, hs]
  refine wpAny_Try_except ?_
  refine wpAny_mono ((hb (Wf D) (X.pn ++ pins) (fun e s₁ => wpAny (model X.prog X.w) X.A (noteFrame e X.env) (fun _ s₂ => wpAny (model X.prog X.w) X.A (setFlight e none) (fun _ s₃ =>
    wpAny (model X.prog X.w) X.A (handleBy e X.env (h₀ :: hds)) (SP X pins D) X.xe s₃) X.xe s₂) X.xe s₁) (fun u s' xx => ?_) PassesOwn.looking).run [] s σ H D (I.toTry _) h) (fun f s1 hsp => ?_) (fun e s1 he => he)
  · obtain ⟨a, B, sI, pins', σ', H', cls, d, rfl, J', nb, up, sky, na, os, ag, w⟩ := xx
    have J : Inv X pins σ' H' sI := J'.ofTry ok
    have sky' : Sky B (X.env :: X.outer) a (Zc cls d) X.env.locals s'.heap := by rw [← hs]; exact sky
    show wpAny (model X.prog X.w) X.A (noteFrame (.ref a) X.env) _ _ _
    refine Sky.land Zc.steady hfr hf sky' fun h3 fl3 up3 => ?_
    exact r pins D σ' H' a B sI cls d { s' with heap := h3 } ⟨J, nb, up.trans up3, fl3, na, os, ag⟩ w
  · cases f with
    | next => obtain ⟨σ', H', J', q⟩ := hsp; exact wpAny_execs_nil ⟨σ', H', J'.ofTry ok, q⟩
    | brk => obtain ⟨σ', H', J', q⟩ := hsp; exact ⟨σ', H', J'.ofTry ok, q⟩
    | cont => obtain ⟨σ', H', J', q⟩ := hsp; exact ⟨σ', H', J'.ofTry ok, q⟩
    | ret u => obtain ⟨v, σ', H', J', r, q⟩ := hsp; exact ⟨v, σ', H', J'.ofTry ok, r, q⟩
/-! ### read with data -/
variable {ts2 : Addr → Addr → List (Str × D) → TS2} {tn2 : TS2} {tb2 : (Env2 → XK2) → TS2} {Wf2 : Ends2 → Env2 → XK2} {Wout2 : Env2 → XK2}
structure HS2 [jx : Jx] (X : Cx) (hds : List ExceptHandler) (Wf : Ends → WX) (Wf2 : Ends2 → Env2 → XK2) : Prop where
  h : Hdl X hds Wf
  r : ∀ (D2 : Ends2) (D : Ends) (I : Hp) (μ : Mu) (H : Hp), GoS X.K I μ H D2 D → ∀ (ρ' : Env2) (σ' : L2.St) (C : Addr) (fs : List (Str × Y.D)) (I' : Hp) (μ' : Mu) (H' : Hp) (dx : Addr) (hfs : List (Str × V)),
    Wf2 D2 ρ' C fs μ' → At0 X.K μ' I' H' → jx.J I' μ' H' → Kp I μ H I' μ' H' → Slots X.K I' ρ' σ' → H' dx = some (.xd hfs) → I' dx = none → RpF X.K I' fs hfs → Wf D (.ref C) (some dx) σ' H'
theorem h_nil [jx : Jx] (hw : Wl X Wout2 Wout) (hs : X.stack = X.env :: X.outer := by rfl) (hf : X.env.frame = some X.env.locals := by rfl) : HS2 X [] (fun _ => Wout) (fun _ => Wout2) :=
  ⟨hdl_nil hs hf hw.tk, fun _ _ _ _ _ _ ρ' σ' C fs I' μ' H' dx hfs q a j _ sl hd hi r => @Wl.link jx _ _ _ hw ρ' σ' C fs I' μ' H' dx hfs q a j sl hd hi r⟩
theorem h_as [jx : Jx] (hN : X.N.Nodup) (hc : Names X x c)
    (hsu : ∀ [Jx] (a : Addr) (oe : Obj) (cls : Value) (d : Option Addr) (pn : List (Addr × Obj)) (C : Addr) (fs : List (Str × Y.D)), Zc cls d oe → (∃ vs, oe.data = .fields vs) → Xs X.K cls d C fs → PSs2 (X.suite a ((a, oe) :: pn)) (b₀ :: suite) (ts a cls d) (ts2 a C fs))
    (r : HS2 X hds Wf Wf2) (hf : X.env.frame = some X.env.locals := by rfl) (hi : X.N[i]? = some n := by rfl) (hln : X.env.kindOf n = some .local := by rfl) :
    HS2 X (.ExceptHandler (some (.Name x np)) (some n) (b₀ :: suite) pos' :: hds) (fun D => wAs X.K c i ts (Wf D) D) (fun D2 => wAs2 X.K c i ts2 (Wf2 D2) D2) := by
  refine ⟨hdl_as hf hN hi hln hc (fun a oe cls d pn hz hv => @PSs2.ps Jx.off _ _ _ _ (@hsu Jx.off a oe cls d pn 0 [] hz hv Xs.no)) r.h, fun D2 D I μ H g => ?_⟩
  rintro ρ' σ' C fs I' μ' H' dx hfs ⟨b, hb1, hy, hn⟩ a0 jj kk hS' hd hi' hr
  have pst : GoS X.K I' μ' H' D2 D := g.past kk
  refine ⟨b, hb1, fun e a ha => ?_, fun e => r.r D2 D I μ H g ρ' σ' C fs I' μ' H' dx hfs (hn e) a0 jj kk hS' hd hi' hr⟩
  have hmd : μ' dx = none := by
    cases z : μ' dx with
    | none => rfl
    | some m =>
      obtain ⟨_, o, ho, hR⟩ := a0.own dx m z
      rw [hd] at ho
      cases ho
      exact hR.noXd.elim
  let j2 : Jx := ⟨fun I2 μ2 H2 => jx.J I2 μ2 H2 ∧ H2 dx = some (.xd hfs) ∧ I2 dx = none ∧ μ2 dx = none ∧ Exx I' I2, fun p k => by
    obtain ⟨p1, p2, p3, p4, p5⟩ := p
    obtain ⟨r1, r2, r3⟩ := k.fr dx _ p2 p3 p4
    exact ⟨jx.step p1 k, r1, r2, r3, p5.trans k.ex⟩⟩
  have hA2 : @At j2 X.K μ' I' H' := @At.mk j2 _ _ _ _ a0 ⟨jj, hd, hi', hmd, Exx.refl _⟩
  have hxs : @Xs j2 X.K (.ref C) (some dx) C fs := fun I2 μ2 H2 _ p => ⟨rfl, dx, hfs, rfl, p.2.1, RpF.mono p.2.2.2.2 hr⟩
  have hS2 := @hsu j2 a { cls := .ref C, dict := some dx, data := .fields #[] } (.ref C) (some dx) [] C fs ⟨rfl, rfl⟩ ⟨#[], rfl⟩ hxs
  refine @PSs2.re j2 _ _ _ _ hS2 (gone2 i D2) (ρ'.set i (some (.adr a))) μ' (hy e a) I' (σ'.set i (some (.ref a))) H' hA2 (hS'.set i rfl) _ ?_
  have g2 : @GoS j2 X.K I' μ' H' D2 D := GoS.over (j1 := jx) (j2 := j2) (fun _ _ _ p => p.1) pst
  exact @GoS.mk j2 _ _ _ _ _ _ (fun ρ3 μ3 σ3 I3 H3 q3 a3 s3 k3 => @GoS.nx j2 _ _ _ _ _ _ g2 _ μ3 _ I3 H3 q3 a3 (s3.unset i) k3) (show @Go j2 X.K I' μ' H' D2.rt D.rt from @GoS.rt j2 _ _ _ _ _ _ g2)
    (fun ρ3 μ3 σ3 I3 H3 q3 a3 s3 k3 => @GoS.bk j2 _ _ _ _ _ _ g2 _ μ3 _ I3 H3 q3 a3 (s3.unset i) k3) (fun ρ3 μ3 σ3 I3 H3 q3 a3 s3 k3 => @GoS.ct j2 _ _ _ _ _ _ g2 _ μ3 _ I3 H3 q3 a3 (s3.unset i) k3)
theorem h_only [jx : Jx] (hc : Names X x c)
    (hsu : ∀ [Jx] (a : Addr) (oe : Obj) (cls : Value) (d : Option Addr) (pn : List (Addr × Obj)), Zc cls d oe → (∃ vs, oe.data = .fields vs) → PSs2 (X.suite a ((a, oe) :: pn)) (b₀ :: suite) (ts a cls d) tn2)
    (r : HS2 X hds Wf Wf2) (hf : X.env.frame = some X.env.locals := by rfl) :
    HS2 X (.ExceptHandler (some (.Name x np)) none (b₀ :: suite) pos' :: hds) (fun D => wOnly X.K c ts (Wf D) D) (fun D2 => wOnly2 X.K c tn2 (Wf2 D2) D2) := by
  refine ⟨hdl_only hf hc (fun a oe cls d pn hz hv => @PSs2.ps Jx.off _ _ _ _ (@hsu Jx.off a oe cls d pn hz hv)) r.h, fun D2 D I μ H g => ?_⟩
  rintro ρ' σ' C fs I' μ' H' dx hfs ⟨b, hb1, hy, hn⟩ a0 jj kk hS' hd hi' hr
  refine ⟨b, hb1, fun e a ha => ?_, fun e => r.r D2 D I μ H g ρ' σ' C fs I' μ' H' dx hfs (hn e) a0 jj kk hS' hd hi' hr⟩
  have hR := @PSs2.re jx _ _ _ _ (@hsu jx a { cls := .ref C, dict := some dx, data := .fields #[] } (.ref C) (some dx) [] ⟨rfl, rfl⟩ ⟨_, rfl⟩)
  exact hR D2 ρ' μ' (hy e) I' σ' H' (@At.mk jx _ _ _ _ a0 jj) hS' D (g.past kk)
def dTryH (tb2 : (Env2 → XK2) → TS2) (Wf2 : Ends2 → Env2 → XK2) : TS2 := fun D2 ρ μ => tb2 (Wf2 D2) D2 ρ μ
instance st_tryH {D2 : Ends2} {ρ : Env2} {μ : Mu} : Step (dTryH tb2 Wf2 D2 ρ μ) (tb2 (Wf2 D2) D2 ρ μ) := ⟨fun q => q⟩
theorem s_tryH [jx : Jx] {h₀ : ExceptHandler}
    (hb : ∀ [Jx] (W2 : Env2 → XK2) (W : WX) (pn : List (Addr × Obj)) (xe : Value → Shared → Prop), Wl (X.tr pn xe) W2 W → PSs2 (X.tr pn xe) body (tb W) (tb2 W2))
    (hh : ∀ [Jx], HS2 X (h₀ :: hds) Wf Wf2) (hs : X.stack = X.env :: X.outer := by rfl) (hf : X.env.frame = some X.env.locals := by rfl) :
    PS2 X (.Try body (h₀ :: hds) [] [] pos) (fun D σ H => tb (Wf D) D σ H) (dTryH tb2 Wf2) := by
  refine ⟨ps_try_hdl hs hf (fun W pn xe tk _ => @PSs2.ps Jx.off _ _ _ _ (@hb Jx.off (fun _ _ _ _ => False) W pn xe (@Wl.mk Jx.off _ _ _ tk fun _ _ _ _ _ _ _ _ _ _ _ j => j.elim))) (@hh jx).h, fun D2 ρ μ q I σ H hA hS D g => ?_⟩
  let j1 : Jx := ⟨fun I' μ' H' => jx.J I' μ' H' ∧ Kp I μ H I' μ' H', fun a b => ⟨jx.step a.1 b, a.2.trans b⟩⟩
  have hA1 : @At j1 X.K μ I H := @At.mk j1 _ _ _ _ (@At.toAt0 jx _ _ _ _ hA) ⟨@At.j jx _ _ _ _ hA, Kp.refl⟩
  have hw1 : @Wl j1 (X.tr [] fun _ _ => True) (Wf2 D2) (Wf D) := by
    refine @Wl.mk j1 _ _ _ (fun _ _ _ => trivial) ?_
    rintro ρ' σ' C fs I' μ' H' dx hfs q0 a0 ⟨jj, kk⟩ hS' hd hi' hr
    exact @HS2.r jx _ _ _ _ (@hh jx) D2 D I μ H g ρ' σ' C fs I' μ' H' dx hfs q0 a0 jj kk hS' hd hi' hr
  exact @PSs2.re j1 _ _ _ _ (@hb j1 _ _ _ _ hw1) D2 ρ μ q I σ H hA1 hS D (GoS.over (j1 := jx) (j2 := j1) (fun _ _ _ p => p.1) g)
theorem w_missed {K : PySem.W.Frag} {D2 : Ends2} {ρ : Env2} {C : Addr} {fs : List (Str × Y.D)} {μ : Mu} (h : PySem.W.exmOne K (.ref C) c = some false) (q : Wout2 ρ C fs μ) : wAs2 K c i ts2 Wout2 D2 ρ C fs μ :=
  ⟨false, h, (fun z => absurd z Bool.false_ne_true), fun _ => q⟩
theorem w_missedN {K : PySem.W.Frag} {D2 : Ends2} {ρ : Env2} {C : Addr} {fs : List (Str × Y.D)} {μ : Mu} (h : PySem.W.exmOne K (.ref C) c = some false) (q : Wout2 ρ C fs μ) : wOnly2 K c tn2 Wout2 D2 ρ C fs μ :=
  ⟨false, h, (fun z => absurd z Bool.false_ne_true), fun _ => q⟩
end
def exN (x y : Str) : Fb := fun K => decide (PySem.W.exmOne K (.ref (He.ga K x)) (.ref (He.ga K y)) = some false)
theorem exn_mk {K : PySem.W.Frag} {x y : Str} (c : exN x y K = true) : PySem.W.exmOne K (.ref (He.ga K x)) (.ref (He.ga K y)) = some false := of_decide_eq_true c
end Y

set_option Elab.async false
set_option linter.all false
set_option maxRecDepth 100000
set_option maxHeartbeats 4000000
namespace Y
open PySem PySem.Spec PyProof.Rows L2
/-! xs.pop(i), xs.insert(i, x) of an owned list -/
section
variable {X : Cx} {K : PySem.W.Frag} {e e2 o : Expr} {to : TE} {to2 : TE2} {tl : TA} {tl2 : TA2} {apos cpos : Pos} {μ : Mu} {Q : DK}
theorem RpA.eraseIdx {I : Hp} : ∀ {ds : List D} {vs : List V} (n : Nat), RpA K I ds vs → RpA K I (ds.eraseIdx n) (vs.eraseIdx n)
  | [], _, n, r => by cases (show _ = _ from r); exact rfl
  | _ :: _, _, 0, ⟨v, w, e, _, r2⟩ => by subst e; exact r2
  | _ :: _, _, n + 1, ⟨v, w, e, r1, r2⟩ => by subst e; exact ⟨v, _, rfl, r1, RpA.eraseIdx n r2⟩
def dPopAt : DRM := fun x xs μ Q => ∃ p ds j d, x = .adr p ∧ xs = [.int (j : Nat)] ∧ μ p = some (.lst ds) ∧ j < 2 ^ 62 ∧ ds[j]? = some d ∧ Q d (mup μ p (.lst (ds.eraseIdx j)))
theorem w_popAt {p : Addr} {ds : List D} {j : Nat} {d : D} (h : μ p = some (.lst ds)) (hj : j < 2 ^ 62) (e : ds[j]? = some d) (q : Q d (mup μ p (.lst (ds.eraseIdx j)))) : dPopAt (.adr p) [.int (j : Nat)] μ Q := ⟨p, ds, j, d, rfl, rfl, h, hj, e, q⟩
theorem rm_popAt [Jx] : RM K rPopAt dPopAt := fun x xs μ Q2 q I H v vs hA rx rs Q k => by
  obtain ⟨p, ds, j, d, rfl, rfl, h, hj, e, q⟩ := q
  cases (show v = _ from rx)
  obtain ⟨w, e1, e2⟩ := rs.one_inv
  cases (show w = _ from e2)
  subst e1
  obtain ⟨_, ob, ho, us, rfl, hr⟩ := hA.own p _ h
  obtain ⟨u, hu, hd⟩ := hr.get e
  have hl : j < us.length := (List.getElem?_eq_some_iff.mp hu).1
  refine ⟨p, us, (j : Int), j, u, rfl, rfl, ho, by omega, by omega, ?_, hu, k _ _ _ _ _ q (hA.put h ⟨_, rfl, hr.eraseIdx j⟩) (Kp.put h) hd⟩
  have hz : ¬ ((j : Nat) : Int) < 0 := by omega
  unfold seqIndex?
  simp [hz, hl]
theorem e_popAt [Jx] (ho : PE2 X o to to2) (ha : PA2 X [e] tl tl2) (hbase : attributeBase o "pop" X.env (eval o X.env) = eval o X.env := by rfl)
    (hfew : ((backTo cpos (starEach [e] X.env)).all (fun x => !x.1) && (backToKw cpos (keywordEach [] X.env)).all (fun x => x.1.isSome) && decide ([e].length + ([] : List Keyword).length + (if ([] : List Keyword).isEmpty then 0 else 1) < 30)) = true := by rfl)
    (hline : (apos.endLine == cpos.line) = true := by rfl) (hs : starEach [e] X.env = (false, eval e X.env) :: starEach [] X.env := by rfl) : PE2 X (.Call (.Attribute o "pop" apos) [e] [] cpos) (tBM X.K "list" rPopAt to tl) (dBM "list" dPopAt to2 tl2) :=
  e_bm PySem.F.plainAttrs_list PySem.F.slot_list_pop PySem.F.type_list_pop mt_popAt rm_popAt ho ha hbase hfew hline hs
abbrev rIns : V → List V → Hp → VK → Prop := fun x vs H Q => ∃ (l : Addr) (xs : List V) (i : Int) (y : V), x = .ref l ∧ vs = [.int i, y] ∧ H l = some (.lst xs) ∧ xs.length < sizeLine ∧ 0 ≤ i ∧ i < 2 ^ 63 ∧ Q .non (upd H l (.lst (xs.take i.toNat ++ [y] ++ xs.drop i.toNat)))
def dIns : DRM := fun x xs μ Q => ∃ p ds j d, x = .adr p ∧ xs = [.int (j : Nat), d] ∧ μ p = some (.lst ds) ∧ ds.length < sizeLine ∧ j < 2 ^ 62 ∧ Q .non (mup μ p (.lst (ds.take j ++ [d] ++ ds.drop j)))
theorem w_ins {p : Addr} {ds : List D} {j : Nat} {d : D} (h : μ p = some (.lst ds)) (hl : ds.length < sizeLine) (hj : j < 2 ^ 62) (q : Q .non (mup μ p (.lst (ds.take j ++ [d] ++ ds.drop j)))) : dIns (.adr p) [.int (j : Nat), d] μ Q := ⟨p, ds, j, d, rfl, rfl, h, hl, hj, q⟩
theorem rm_ins [Jx] : RM K rIns dIns := fun x xs μ Q2 q I H v vs hA rx rs Q k => by
  obtain ⟨p, ds, j, d, rfl, rfl, h, hl, hj, q⟩ := q
  cases (show v = _ from rx)
  obtain ⟨w1, w2, rfl, e1, e2⟩ := rs.two_inv
  cases (show w1 = _ from e1)
  obtain ⟨hI, ob, ho, us, rfl, hr⟩ := hA.own p _ h
  refine ⟨p, us, (j : Int), w2, rfl, rfl, ho, by rw [hr.length]; exact hl, by omega, by omega, ?_⟩
  rw [Int.toNat_natCast]
  exact k _ _ _ _ _ q (hA.put h ⟨_, rfl, ((hr.take j).append (RpA.one e2)).append (hr.drop j)⟩) (Kp.put h) rfl
theorem e_insert [Jx] (ho : PE2 X o to to2) (ha : PA2 X [e, e2] tl tl2) (hbase : attributeBase o "insert" X.env (eval o X.env) = eval o X.env := by rfl)
    (hfew : ((backTo cpos (starEach [e, e2] X.env)).all (fun x => !x.1) && (backToKw cpos (keywordEach [] X.env)).all (fun x => x.1.isSome) && decide ([e, e2].length + ([] : List Keyword).length + (if ([] : List Keyword).isEmpty then 0 else 1) < 30)) = true := by rfl)
    (hline : (apos.endLine == cpos.line) = true := by rfl) (hs : starEach [e, e2] X.env = (false, eval e X.env) :: starEach [e2] X.env := by rfl) (hpl : (backTo cpos (starEach [e2] X.env)).any (·.1) = false := by rfl) : PE2 X (.Call (.Attribute o "insert" apos) [e, e2] [] cpos) (tBM X.K "list" rIns to tl) (dBM "list" dIns to2 tl2) :=
  e_bm PySem.F.plainAttrs_list PySem.F.slot_list_insert PySem.F.type_list_insert mt_insert rm_ins ho ha hbase hfew hline hs hpl
end
end Y

set_option Elab.async false
set_option linter.all false
set_option maxRecDepth 100000
set_option maxHeartbeats 4000000
namespace Y
open PySem PySem.Spec PyProof.Rows L2
/-! zip of three lists -/
/-- whichever side it stands on, an iterator is drawn from up to where it is -/
theorem draws_any (tup : Bool) {P : Program} {w : World} {A : Around} (hh : A.handled = none) (it a : Addr) (ne : a ≠ it) (its : Array Value) (i : Nat) : ∃ (n : Nat) (R : Nat → Value → Prop) (St : Nat → Heap → Prop), Draws P w A it [it, a] n R St ∧ (∀ g, WalkB tup g it a i → HasB tup g a its → St i g) ∧ i ≤ n ∧ (its.size ≤ i → i = n) := by
  by_cases h : its.size ≤ i
  · exact ⟨i, _, _, drawsEnd tup hh it a its i h, fun g h1 h2 => ⟨rfl, h1, h2⟩, Nat.le_refl _, fun _ => rfl⟩
  · exact ⟨its.size, _, _, drawsB tup hh it a ne its, fun g h1 h2 => ⟨h1, h2⟩, by omega, fun h' => absurd h' h⟩
def Itz3 (K : PySem.W.Frag) (a b c : Addr) : It :=
  ⟨fun i H => ∃ (xs ys zs : List V) (x y z : V), SqB false K H a xs ∧ SqB false K H b ys ∧ SqB false K H c zs ∧ xs[i]? = some x ∧ ys[i]? = some y ∧ zs[i]? = some z,
    fun i H v H' => ∃ T x y z, v = .ref T ∧ H T = none ∧ H' = upd H T (.tup [x, y, z]) ∧ (∀ xs, SqB false K H a xs → xs[i]? = some x) ∧ (∀ ys, SqB false K H b ys → ys[i]? = some y) ∧ ∀ zs, SqB false K H c zs → zs[i]? = some z,
    fun i H => ∃ xs ys zs : List V, SqB false K H a xs ∧ SqB false K H b ys ∧ SqB false K H c zs ∧ (xs.length ≤ i ∨ ys.length ≤ i ∨ zs.length ≤ i)⟩
abbrev fp3 (z TI TO i1 i2 i3 : Addr) : List Addr := [z, TI, TO, i1, i2, i3]
theorem turn3 {P : Program} {w : World} {K : PySem.W.Frag} {elts : List Expr} {kk : Nat} {tp : Pos} {a b c z TI TO i1 i2 i3 : Addr} (S : ZipSep3 z TI TO i1 i2 i3 [i1, a] [i2, b] [i3, c]) (n1 : a ≠ i1) (n2 : b ≠ i2) (n3 : c ≠ i3) :
    Turn P w K (.Tuple elts kk tp) (Itz3 K a b c) (fp3 z TI TO i1 i2 i3) z (fun i g => IsZip g z TI TO .none ∧ IsTupOf3 g TI (.ref i1) (.ref i2) (.ref i3) ∧ (∃ p q r, IsTupOf3 g TO p q r) ∧ WalkB false g i1 a i ∧ WalkB false g i2 b i ∧ WalkB false g i3 c i) where
  mem := by simp
  obj := fun i g ⟨w1, w2, ⟨p, q, r, w3⟩, w4, w5, w6⟩ c hc => by
    have hc2 : c = z ∨ c = TI ∨ c = TO ∨ c = i1 ∨ c = i2 ∨ c = i3 := by simpa using hc
    rcases hc2 with e | e | e | e | e | e <;> rw [e]
    · exact ⟨_, w1, fun _ => nofun⟩
    · exact ⟨_, w2, fun _ => nofun⟩
    · exact ⟨_, w3, fun _ => nofun⟩
    · exact walkb_obj w4
    · exact walkb_obj w5
    · exact walkb_obj w6
  keep := fun i g g' ⟨w1, w2, ⟨p, q, r, w3⟩, w4, w5, w6⟩ k =>
    ⟨k z (by simp) _ w1, k TI (by simp) _ w2, ⟨p, q, r, k TO (by simp) _ w3⟩, walkb_at w4 (k i1 (by simp)), walkb_at w5 (k i2 (by simp)), walkb_at w6 (k i3 (by simp))⟩
  item := by
    intro X eP ew eK calm i pins s σ H E inv hf tn hg
    subst eP ew eK
    obtain ⟨w1, w2, ⟨p, q, r, w3⟩, w4, w5, w6⟩ := tn
    obtain ⟨xs, ys, zs, x, y, t, s1, s2, s3, gx, gy, gt⟩ := hg
    obtain ⟨its, r1, l1, _⟩ := sqb_has inv s1
    obtain ⟨jts, r2, l2, _⟩ := sqb_has inv s2
    obtain ⟨kts, r3, l3, _⟩ := sqb_has inv s3
    have zlt : z < s.heap.objs.size := Heap.lt_size w1
    have b1 : i < its.toArray.size := by have := (List.getElem?_eq_some_iff.mp gx).1; have := r1.length; simp only [List.size_toArray]; omega
    have b2 : i < jts.toArray.size := by have := (List.getElem?_eq_some_iff.mp gy).1; have := r2.length; simp only [List.size_toArray]; omega
    have b3 : i < kts.toArray.size := by have := (List.getElem?_eq_some_iff.mp gt).1; have := r3.length; simp only [List.size_toArray]; omega
    have hh : X.A.in1.handled = none := inv.ok.hd calm
    refine wpAny_pyNext_zipD3_item S (drawsB false hh i1 a n1 its.toArray) (drawsB false hh i2 b n2 jts.toArray) (drawsB false hh i3 c n3 kts.toArray) w1 w2 w3 ⟨w4, l1⟩ ⟨w5, l2⟩ ⟨w6, l3⟩ b1 b2 b3 fun u v t0 g tk e1 e2 e3 z1 z2 z3 z4 z4b z5 z6 z7 => ?_
    refine ⟨_, rfl, wpAny_letOwnedTupleGo_zip (s := { s with heap := g, toks := tk }) z1 fun g2 z8 sb => ?_⟩
    have z9 : g2.get? s.heap.objs.size = some { cls := .type "tuple", data := .seq #[u, v, t0] } := (sb.2 _ (Nat.ne_of_gt zlt)).trans z5
    obtain ⟨u', hu, ru⟩ := r1.get gx
    obtain ⟨v', hv, rv⟩ := r2.get gy
    obtain ⟨t', ht, rt⟩ := r3.get gt
    have eu : u' = u := by rw [List.getElem?_toArray] at e1; exact Option.some.inj (hu.symm.trans e1)
    have ev : v' = v := by rw [List.getElem?_toArray] at e2; exact Option.some.inj (hv.symm.trans e2)
    have et : t' = t0 := by rw [List.getElem?_toArray] at e3; exact Option.some.inj (ht.symm.trans e3)
    subst eu ev et
    have fresh : ObjOk X.prog X.w (upd H s.heap.objs.size (.tup [x, y, t])) g2 s.heap.objs.size (.tup [x, y, t]) := ⟨sz_le (by show 3 ≤ 10000000; decide), [u', v', t'], .cons ru (.cons rv (.cons rt .nil)), ⟨_, z9, rfl, _, rfl⟩⟩
    have kk : ∀ c o, c ∉ fp3 z TI TO i1 i2 i3 → s.heap.get? c = some o → g2.get? c = some o := fun c o hc e => by
      simp only [List.mem_cons, List.not_mem_nil, or_false, not_or] at hc
      exact (sb.2 c hc.1).trans (z7 c o hc.1 hc.2.2.1 hc.2.2.2.1 hc.2.2.2.2.1 hc.2.2.2.2.2 e)
    refine ⟨.ref s.heap.objs.size, _, Inv.turnedNew (s := s) (t' := tk) inv kk hf (Nat.le_refl _) fresh, rfl, ⟨_, x, y, t, rfl, inv.hok.fresh (Nat.le_refl _), rfl, fun l hl => by rw [sqb_one inv hl s1]; exact gx, fun l hl => by rw [sqb_one inv hl s2]; exact gy, fun l hl => by rw [sqb_one inv hl s3]; exact gt⟩, ⟨z8, ?_, ⟨u', v', t', ?_⟩, ?_, ?_, ?_⟩, fun c hc => ?_⟩
    · exact (sb.2 _ S.TIz).trans (z7 _ _ S.TIz S.TITO S.TIi1 S.TIi2 S.TIi3 w2)
    · exact (sb.2 _ S.TOz).trans z2
    · exact walkb_at z3.1 fun o e => (sb.2 _ S.zi1.symm).trans e
    · exact walkb_at z4.1 fun o e => (sb.2 _ S.zi2.symm).trans e
    · exact walkb_at z4b.1 fun o e => (sb.2 _ S.zi3.symm).trans e
    · have hc2 : c = z ∨ c = TI ∨ c = TO ∨ c = i1 ∨ c = i2 ∨ c = i3 := by simpa using hc
      have clt : c < s.heap.objs.size := by
        rcases hc2 with e | e | e | e | e | e <;> rw [e]
        · exact zlt
        · exact Heap.lt_size w2
        · exact Heap.lt_size w3
        · obtain ⟨o, e, _⟩ := walkb_obj w4; exact Heap.lt_size e
        · obtain ⟨o, e, _⟩ := walkb_obj w5; exact Heap.lt_size e
        · obtain ⟨o, e, _⟩ := walkb_obj w6; exact Heap.lt_size e
      rw [upd_ne (Nat.ne_of_lt clt)]; exact (hf c hc).1
  done := by
    intro X eP ew eK calm i pins s σ H E inv hf tn hg
    subst eP ew eK
    obtain ⟨w1, w2, ⟨p, q, r, w3⟩, w4, w5, w6⟩ := tn
    obtain ⟨xs, ys, zs, s1, s2, s3, nn⟩ := hg
    obtain ⟨its, r1, l1, _⟩ := sqb_has inv s1
    obtain ⟨jts, r2, l2, _⟩ := sqb_has inv s2
    obtain ⟨kts, r3, l3, _⟩ := sqb_has inv s3
    have q1 : its.toArray.size = xs.length := by rw [List.size_toArray]; exact r1.length.symm
    have q2 : jts.toArray.size = ys.length := by rw [List.size_toArray]; exact r2.length.symm
    have q3 : kts.toArray.size = zs.length := by rw [List.size_toArray]; exact r3.length.symm
    have hh : X.A.in1.handled = none := inv.ok.hd calm
    obtain ⟨m1, R1, St1, d1, f1, g1, h1⟩ := draws_any (P := X.prog) (w := X.w) false hh i1 a n1 its.toArray i
    obtain ⟨m2, R2, St2, d2, f2, g2, h2⟩ := draws_any (P := X.prog) (w := X.w) false hh i2 b n2 jts.toArray i
    obtain ⟨m3, R3, St3, d3, f3, g3, h3⟩ := draws_any (P := X.prog) (w := X.w) false hh i3 c n3 kts.toArray i
    refine wpAny_pyNext_zipD3_end S d1 d2 d3 w1 w2 w3 (f1 _ w4 l1) (f2 _ w5 l2) (f3 _ w6 l3) g1 g2 g3 (by rcases nn with n | n | n; exact .inl (h1 (by omega)); exact .inr (.inl (h2 (by omega))); exact .inr (.inr (h3 (by omega)))) fun g tk k => ⟨rfl, Inv.turnedL (s := s) (t' := tk) (ch := fp3 z TI TO i1 i2 i3) inv (fun c o hc e => by
      simp only [List.mem_cons, List.not_mem_nil, or_false, not_or] at hc
      exact k c o hc.1 hc.2.2.1 hc.2.2.2.1 hc.2.2.2.2.1 hc.2.2.2.2.2 e) hf⟩
  self := fun A i s Q E tn h => wpAny_pyIter_zip tn.1 h
def iZip3 (K : PySem.W.Frag) (ta : TA) : TI := fun σ H R => ta σ H fun vs H1 => ∃ a b c xs ys zs, vs = [.ref a, .ref b, .ref c] ∧ SqB false K H1 a xs ∧ SqB false K H1 b ys ∧ SqB false K H1 c zs ∧ R (Itz3 K a b c) H1
theorem pi_zip3 {X : Cx} {e e2 e3 : Expr} {ta : TA} {p pos tp : Pos} {elts : List Expr} {kk : Nat} (hg : Gl X "zip") (hm : X.mg "zip" = none) (ha : PA X [e, e2, e3] ta)
    (hs : starEach [e, e2, e3] X.env = (false, eval e X.env) :: starEach [e2, e3] X.env := by rfl) (hpl : (backTo pos (starEach [e2, e3] X.env)).any (·.1) = false := by rfl) : PI X (.Tuple elts kk tp) (.Call (.Name "zip" p) [e, e2, e3] [] pos) (iZip3 X.K ta) := by
  refine ⟨fun pins s σ H R inv h => Call_ (ld_blt inv hg hm PyProof.Rows.boot_zip (PyProof.Rows.callWith_type1 (thn (ha.run pos pins s σ H _ inv h) fun us s1 ⟨vs, H1, I1, rs, a, b, c, xs, ys, zs, ev, s2, s3, s4, q⟩ => ?_) hs hpl))⟩
  subst ev
  obtain ⟨u, v, t, rfl, ru, rv, rt⟩ := vals3 rs
  cases ru; cases rv; cases rt
  obtain ⟨its, r1, l1, alt⟩ := sqb_has I1 s2
  obtain ⟨jts, r2, l2, blt⟩ := sqb_has I1 s3
  obtain ⟨kts, r3, l3, clt⟩ := sqb_has I1 s4
  refine zip_begins3 (beginsB false a its.toArray) (beginsB false b jts.toArray) (beginsB false c kts.toArray) l1 l2 l3 fun g z1 z2 z3 z4 z5 z5b z6 z7 => wpAny_pyIter_zip z1 ?_
  have I2 : Inv X pins σ H1 { s1 with heap := g } := I1.kept (t' := s1.toks) z7
  have S := zip_sep3 (N := s1.heap.objs.size) (fp1 := [a]) (fp2 := [b]) (fp3 := [c]) (by simpa using alt) (by simpa using blt) (by simpa using clt)
  refine ⟨s1.heap.objs.size + 5, fp3 (s1.heap.objs.size + 5) (s1.heap.objs.size + 3) (s1.heap.objs.size + 4) s1.heap.objs.size (s1.heap.objs.size + 1) (s1.heap.objs.size + 2), _, _, H1, rfl, I2, turn3 S (Nat.ne_of_lt alt) (Nat.ne_of_lt (Nat.lt_succ_of_lt blt)) (Nat.ne_of_lt (Nat.lt_succ_of_lt (Nat.lt_succ_of_lt clt))), ⟨z1, z2, ⟨_, _, _, z3⟩, begB_walk z4, begB_walk z5, begB_walk z5b⟩, fun c hc => ?_, q⟩
  have hc2 : c = s1.heap.objs.size + 5 ∨ c = s1.heap.objs.size + 3 ∨ c = s1.heap.objs.size + 4 ∨ c = s1.heap.objs.size ∨ c = s1.heap.objs.size + 1 ∨ c = s1.heap.objs.size + 2 := by simpa using hc
  have cle : s1.heap.objs.size ≤ c := by
    rcases hc2 with e | e | e | e | e | e <;> rw [e]
    · exact Nat.le_add_right _ _
    · exact Nat.le_add_right _ _
    · exact Nat.le_add_right _ _
    · exact Nat.le_refl _
    · exact Nat.le_add_right _ _
    · exact Nat.le_add_right _ _
  exact I1.fpOk cle (I1.hok.fresh cle)
/-! over data -/
variable {X : Cx} {K : PySem.W.Frag} {a b c e : Expr} {tl : TA} {tl2 : TA2} {pos p tpos : Pos} {ρ : Env2} {μ : Mu}
def trsD : List D → List D → List D → List D
  | x :: xs, y :: ys, z :: zs => .tup [x, y, z] :: trsD xs ys zs
  | _, _, _ => []
theorem trsD_len : ∀ xs ys zs, (trsD xs ys zs).length = min xs.length (min ys.length zs.length)
  | [], _, _ => by simp [trsD]
  | _ :: _, [], _ => by simp [trsD]
  | _ :: _, _ :: _, [] => by simp [trsD]
  | x :: xs, y :: ys, z :: zs => by simp only [trsD, List.length_cons, trsD_len xs ys zs]; omega
theorem trsD_get : ∀ {xs ys zs : List D} {i : Nat} {x y z : D}, xs[i]? = some x → ys[i]? = some y → zs[i]? = some z → (trsD xs ys zs)[i]? = some (.tup [x, y, z])
  | [], _, _, _, _, _, _, h, _, _ => by simp at h
  | _ :: _, [], _, _, _, _, _, _, h, _ => by simp at h
  | _ :: _, _ :: _, [], _, _, _, _, _, _, h => by simp at h
  | _ :: xs, _ :: ys, _ :: zs, 0, _, _, _, h, h', h'' => by simp at h h' h''; simp [trsD, h, h', h'']
  | _ :: xs, _ :: ys, _ :: zs, i + 1, x, y, z, h, h', h'' => by simpa [trsD] using trsD_get (xs := xs) (ys := ys) (zs := zs) (i := i) (by simpa using h) (by simpa using h') (by simpa using h'')
theorem triple_new [Jx] {I H : Hp} {T : Addr} {d1 d2 d3 : D} {v1 v2 v3 : V} (a : At K μ I H) (hT : H T = none) (r1 : Rp K I d1 v1) (r2 : Rp K I d2 v2) (r3 : Rp K I d3 v3) :
    ∃ I', At K μ I' (upd H T (.tup [v1, v2, v3])) ∧ Kp I μ H I' μ (upd H T (.tup [v1, v2, v3])) ∧ Rp K I' (.tup [d1, d2, d3]) (.ref T) :=
  have e := Exx.new (o := HO.tup [v1, v2, v3]) (a.noI hT)
  ⟨_, a.laid hT, Kp.laid hT (a.noI hT), ⟨T, [v1, v2, v3], rfl, SqT.of upd_same, RpA.cons (r1.mono e) (RpA.cons (r2.mono e) (RpA.one (r3.mono e)))⟩⟩
theorem itd_3 [Jx] {I : Hp} {p q r : Addr} {ds es fs : List D} {x y z : D} (r1 : Rp K I x (.ref p)) (r2 : Rp K I y (.ref q)) (r3 : Rp K I z (.ref r)) : ItD K (Itz3 K p q r) (trsD ds es fs) (fun μ => Still x ds μ ∧ Still y es μ ∧ Still z fs μ) I := fun i I' μ' H' e a g => by
  obtain ⟨p', us, ep, h1, k1⟩ := asL_at a (r1.mono e) g.1
  cases ep
  obtain ⟨q', vs, eq, h2, k2⟩ := asL_at a (r2.mono e) g.2.1
  cases eq
  obtain ⟨r', ws, er, h3, k3⟩ := asL_at a (r3.mono e) g.2.2
  cases er
  have h1 : SqB false K H' p us := .inl (.inl h1)
  have h2 : SqB false K H' q vs := .inl (.inl h2)
  have h3 : SqB false K H' r ws := .inl (.inl h3)
  rw [trsD_len]
  refine ⟨fun hi => ?_, fun hi => ⟨us, vs, ws, h1, h2, h3, by rw [k1.length, k2.length, k3.length]; omega⟩⟩
  have hi1 : i < ds.length := by omega
  have hi2 : i < es.length := by omega
  have hi3 : i < fs.length := by omega
  obtain ⟨u, g1, f1⟩ := k1.get (List.getElem?_eq_getElem hi1)
  obtain ⟨v, g2, f2⟩ := k2.get (List.getElem?_eq_getElem hi2)
  obtain ⟨w, g3, f3⟩ := k3.get (List.getElem?_eq_getElem hi3)
  refine ⟨⟨us, vs, ws, u, v, w, h1, h2, h3, g1, g2, g3⟩, fun u0 H2 yl => ?_⟩
  obtain ⟨T, a1, a2, a3, rfl, hT, rfl, y1, y2, y3⟩ := yl
  have e1 := y1 us h1
  rw [g1] at e1; cases e1
  have e2 := y2 vs h2
  rw [g2] at e2; cases e2
  have e3 := y3 ws h3
  rw [g3] at e3; cases e3
  obtain ⟨I2, b1, b2, b3⟩ := triple_new a hT f1 f2 f3
  exact ⟨_, I2, trsD_get (List.getElem?_eq_getElem hi1) (List.getElem?_eq_getElem hi2) (List.getElem?_eq_getElem hi3), b1, b2, b3⟩
def jZ3K (R : JR) : List D → Mu → Prop := fun xs μ1 => ∃ x y z ds es fs, xs = [x, y, z] ∧ asL μ1 x = some ds ∧ asL μ1 y = some es ∧ asL μ1 z = some fs ∧ R (trsD ds es fs) (fun μ => Still x ds μ ∧ Still y es μ ∧ Still z fs μ) μ1
def jZ3 (ta : TA2) : TI2 := fun ρ μ R => ta ρ μ (jZ3K R)
theorem w_jZ3K {R : JR} {ds es fs : List D} {x y z : D} (h1 : asL μ x = some ds) (h2 : asL μ y = some es) (h3 : asL μ z = some fs) (q : R (trsD ds es fs) (fun μ => Still x ds μ ∧ Still y es μ ∧ Still z fs μ) μ) : jZ3K R [x, y, z] μ := ⟨x, y, z, ds, es, fs, rfl, h1, h2, h3, q⟩
theorem j_z3 [Jx] {elts : List Expr} {kk : Nat} (hg : Gl X "zip") (hm : X.mg "zip" = none) (ha : PA2 X [a, b, c] tl tl2) (hs : starEach [a, b, c] X.env = (false, eval a X.env) :: starEach [b, c] X.env := by rfl) (hpl : (backTo pos (starEach [b, c] X.env)).any (·.1) = false := by rfl) :
    PI2 X (.Tuple elts kk tpos) (.Call (.Name "zip" p) [a, b, c] [] pos) (iZip3 X.K tl) (jZ3 tl2) :=
  ⟨pi_zip3 hg hm ha.pa hs hpl, fun ρ μ R2 q I σ H hA hS R k => ha.re ρ μ _ q I σ H hA hS _ fun xs μ1 vs I1 H1 q1 a1 k1 r1 => by
    obtain ⟨x, y, z, ds, es, fs, rfl, h1, h2, h3, q1⟩ := q1
    obtain ⟨u, v, w, rfl, e1, e2, e3⟩ := r1.three_inv
    obtain ⟨p1, us, rfl, g1, g2⟩ := asL_at a1 e1 h1
    obtain ⟨p2, vs, rfl, g3, g4⟩ := asL_at a1 e2 h2
    obtain ⟨p3, ws, rfl, g5, g6⟩ := asL_at a1 e3 h3
    exact ⟨p1, p2, p3, us, vs, ws, rfl, .inl (.inl g1), .inl (.inl g3), .inl (.inl g5), k _ _ _ _ _ _ q1 a1 k1 (itd_3 e1 e2 e3)⟩⟩
instance st_jZ3 {R : JR} : Step (jZ3 tl2 ρ μ R) (tl2 ρ μ (jZ3K R)) := ⟨fun q => q⟩
variable {R : JR} {xs : List D}
instance hd_jZ3K : HdB (jZ3K R xs μ) := ⟨fun h => h⟩
end Y

set_option Elab.async false
set_option linter.all false
set_option maxRecDepth 100000
set_option maxHeartbeats 4000000
namespace Y
open PySem PySem.Spec PyProof.Rows L2 Builtin
/-! ### x.replace(y, y2 + m, 1), a list display and a subscript, a token being out -/
def rep1 (x y z : Str) (i : Nat) : Str := Builtin.Str.glued z (Builtin.Str.partsBetween x [i] y.length)
theorem gives_rep1 (x y z : Str) (t u v c : Tok) (i : Nat) (h0 : (u == 0 || v == 0) = false) (huv : (u == v) = false) (hyz : (y == z) = false) (ho : Builtin.Str.occurrences x y 0 x.length 1 = [i]) (hy : (y.length == 0) = false) (hl : Builtin.Str.tooLong (x.length + 1 * z.length) = false) :
    Gives (Builtin.«str.replace» ⟨[.str x t, .str y u, .str z v, .int 1 c], []⟩) (.str (rep1 x y z i)) := by
  show Gives (if ((Builtin.Str.occurrences x y 0 x.length 1).isEmpty || (y.length == 0 && z.length == 0)) = true then (do rule "str.replace.nothing"; ret (.str x t)) else
          (do let same ← isSame (.str y u) (.str z v)
              if same = true then (do rule "str.replace.old-is-new"; ret (.str x t)) else
              if Builtin.Str.tooLong (x.length + (Builtin.Str.occurrences x y 0 x.length 1).length * z.length) = true then unsupported "str.replace:memory" else
              retStr (Builtin.Str.glued z (Builtin.Str.partsBetween x (Builtin.Str.occurrences x y 0 x.length 1) y.length)))) _
  rw [ho, hy, isSame_str_other y z u v h0 huv hyz, show ([i] : List Nat).length = 1 from rfl, hl]
  exact .of_eq rfl
theorem const_int1 {M : Model} {A : Around} {E : Value → Shared → Prop} {s : Shared} {env : Env} {i : Int} {k : Nat} {pos : Pos} {Q : Value → Shared → Prop} (h : Q (.int i s.toks) { s with toks := s.toks + 1 }) : wpAny M A (eval (.Constant (.int i) k pos) env) Q E s :=
  fun _ _ _ => h
theorem callM3 {prog : Program} {w : World} {A : Around} {E : Value → Shared → Prop} {s : Shared} {env : Env} {o e₁ e₂ e₃ : Expr} {name : Str} {apos pos : Pos} {Q : Value → Shared → Prop}
    (hbase : attributeBase o name env (eval o env) = eval o env) (hs : starEach [e₁, e₂, e₃] env = [(false, eval e₁ env), (false, eval e₂ env), (false, eval e₃ env)]) (hline : (apos.endLine == pos.line) = true)
    (h : wpAny (model prog w) A (eval o env) (fun ov s₁ => MethodOnS prog w A E name ov pos [(false, eval e₁ env), (false, eval e₂ env), (false, eval e₃ env)] Q s₁) E s) :
    wpAny (model prog w) A (eval (.Call (.Attribute o name apos) [e₁, e₂, e₃] [] pos) env) Q E s := by
  refine wpAny_Call_method_lateS hbase (by rw [hs]; rfl) hline ?_
  rw [hs]; exact h
section
variable {X : Cx} {K : PySem.W.Frag} {a b c e o m : Expr} {ta tb te to tm : TE} {ta2 tb2 te2 to2 tm2 : TE2} {pos apos bpos : Pos} {x y z y2 : Str} {j k l : Nat} {c0 c1 c2 : Pos} {es : List Expr} {tl : TA} {tl2 : TA2}
variable {ρ : Env2} {μ : Mu} {Q : DK}
def Rep1 (x y z : Str) (i : Nat) : Prop := Builtin.Str.occurrences x y 0 x.length 1 = [i] ∧ x.length + z.length ≤ 16000000 ∧ (rep1 x y z i).length ≤ 16777216
def tRep1 (to tm : TE) (y y2 : Str) : TE := fun σ H Q => to σ H fun v H1 => ∃ x, v = .str x ∧ tm σ H1 fun u H2 => ∃ z i, u = .str z ∧ 1 ≤ z.length ∧ Rep1 x y (y2 ++ z) i ∧ Q (.str (rep1 x y (y2 ++ z) i)) H2
def dRep1 (to : TE2) (tm : TE2) (y y2 : Str) : TE2 := fun ρ μ Q => to ρ μ fun d μ1 => ∃ x, d = .str x ∧ tm ρ μ1 fun e μ2 => ∃ z i, e = .str z ∧ 1 ≤ z.length ∧ Rep1 x y (y2 ++ z) i ∧ Q (.str (rep1 x y (y2 ++ z) i)) μ2
theorem pet_rep1 (ho : PE X o to) (hm : PE X m tm) (hy : (y.length == 0) = false) (hy2 : y2 = y)
    (hst : starEach [.Constant (.str y) j c0, .BinOp (.Constant (.str y2) k c1) .Add m bpos, .Constant (.int 1) l c2] X.env = [(false, eval (.Constant (.str y) j c0) X.env), (false, eval (.BinOp (.Constant (.str y2) k c1) .Add m bpos) X.env), (false, eval (.Constant (.int 1) l c2) X.env)] := by rfl)
    (hbase : attributeBase o "replace" X.env (eval o X.env) = eval o X.env := by rfl) (hline : (apos.endLine == pos.line) = true := by rfl) :
    PET X (.Call (.Attribute o "replace" apos) [.Constant (.str y) j c0, .BinOp (.Constant (.str y2) k c1) .Add m bpos, .Constant (.int 1) l c2] [] pos) (tRep1 to tm y y2) := by
  intro pins s σ H Q h0 I h
  refine callM3 hbase hst hline ?_
  refine wpAny_mono (PySem.wpAny_toks (ho.run pins s σ H _ I h)) (fun v s1 q => ?_) fun _ _ z => z.2
  obtain ⟨hk, v', H1, I1, r1, x, e1, q⟩ := q
  subst e1
  obtain ⟨tx, e2⟩ := r1
  subst e2
  refine ⟨"str", _, PySem.F.plainAttrs_str, PySem.F.slot_str_replace, PySem.F.type_str_replace, typeIs_str _ _ _, (fun _ e => nomatch e), Calls.callWith_builtin rfl (Calls.evalArgs_plain (Calls.spliced_cons ?_))⟩
  refine Calls.Constant_str (Calls.spliced_cons ?_)
  refine wpAny_BinOp (Calls.Constant_str ?_)
  refine wpAny_mono (PySem.wpAny_toks (hm.run pins _ σ H1 _ (I1.tok _) q)) (fun v s2 q => ?_) fun _ _ z => z.2
  obtain ⟨hk2, v', H2, I2, r2, z, i, e1, hz, ⟨ho, hl, hr⟩, q⟩ := q
  subst e1
  obtain ⟨tz, e2⟩ := r2
  subst e2
  have hy1 : (y2.length == 0) = false := by rw [hy2]; exact hy
  have hz1 : (z.length == 0) = false := by rw [beq_eq_false_iff_ne]; omega
  refine PySem.P.add_str ?_
  rw [hy1, hz1]
  have hk3 : s1.toks + 1 + 1 ≤ s2.toks := hk2
  refine ⟨by rw [Y.len_app]; rw [Y.len_app] at hl; rw [sizeLine_eq]; omega, Calls.spliced_cons ?_⟩
  refine const_int1 (Calls.spliced_nil ?_)
  have hne : (y == y2 ++ z) = false := by
    rw [beq_eq_false_iff_ne]
    intro e
    have := congrArg Str.length e
    rw [Y.len_app, hy2] at this
    omega
  refine PySem.call_gives PySem.F.slot_str_replace (typeIs_str _ _ _) PySem.F.entry_str_replace (PySem.F.args_str_replace_4 _ _ _ _)
    (gives_rep1 x y (y2 ++ z) tx _ _ _ i (by rw [Bool.or_eq_false_iff]; exact ⟨beq_eq_false_iff_ne.mpr (show s1.toks ≠ 0 by omega), beq_eq_false_iff_ne.mpr (show s2.toks ≠ 0 by omega)⟩) (by rw [beq_eq_false_iff_ne]; show s1.toks ≠ s2.toks; omega) hne ho hy (by unfold Builtin.Str.tooLong; rw [sizeLine_eq]; exact decide_eq_false (by omega))) ?_
  exact ⟨by rw [sizeLine_eq]; exact hr, .str _, H2, I2.tok _, ⟨_, rfl⟩, q⟩
def dRep1a (tm : TE2) (y y2 : Str) (ρ : Env2) (Q : DK) : DK := fun d μ1 => ∃ x, d = .str x ∧ tm ρ μ1 fun e μ2 => ∃ z i, e = .str z ∧ 1 ≤ z.length ∧ Rep1 x y (y2 ++ z) i ∧ Q (.str (rep1 x y (y2 ++ z) i)) μ2
def dRep1b (x y y2 : Str) (Q : DK) : DK := fun e μ2 => ∃ z i, e = .str z ∧ 1 ≤ z.length ∧ Rep1 x y (y2 ++ z) i ∧ Q (.str (rep1 x y (y2 ++ z) i)) μ2
theorem w_rep1 (h : to2 ρ μ (dRep1a tm2 y y2 ρ Q)) : dRep1 to2 tm2 y y2 ρ μ Q := h
theorem w_rep1a (h : tm2 ρ μ (dRep1b x y y2 Q)) : dRep1a tm2 y y2 ρ Q (.str x) μ := ⟨x, rfl, h⟩
theorem w_rep1b (i : Nat) (hz : 1 ≤ z.length) (h : Rep1 x y (y2 ++ z) i) (q : Q (.str (rep1 x y (y2 ++ z) i)) μ) : dRep1b x y y2 Q (.str z) μ := ⟨z, i, rfl, hz, h, q⟩
theorem l_rep1 [Jx] (ho : PE2 X o to to2) (hm : PE2 X m tm tm2) (hy : (y.length == 0) = false := by decide +kernel) (hy2 : y2 = y := by rfl)
    (hst : starEach [.Constant (.str y) j c0, .BinOp (.Constant (.str y2) k c1) .Add m bpos, .Constant (.int 1) l c2] X.env = [(false, eval (.Constant (.str y) j c0) X.env), (false, eval (.BinOp (.Constant (.str y2) k c1) .Add m bpos) X.env), (false, eval (.Constant (.int 1) l c2) X.env)] := by rfl)
    (hbase : attributeBase o "replace" X.env (eval o X.env) = eval o X.env := by rfl) (hline : (apos.endLine == pos.line) = true := by rfl) :
    PEL2 X (.Call (.Attribute o "replace" apos) [.Constant (.str y) j c0, .BinOp (.Constant (.str y2) k c1) .Add m bpos, .Constant (.int 1) l c2] [] pos) (tRep1 to tm y y2) (dRep1 to2 tm2 y y2) := ⟨pet_rep1 ho.pe hm.pe hy hy2 hst hbase hline, fun ρ μ Q2 q I σ H hA hS Q g => ho.re ρ μ _ q I σ H hA hS _ fun d μ1 v I1 H1 q1 a1 k1 r1 => by
  obtain ⟨x, rfl, q⟩ := q1
  exact ⟨x, r1, hm.re ρ μ1 _ q I1 σ H1 a1 (hS.mono k1.ex) _ fun e μ2 u I2 H2 q2 a2 k2 r2 => by
    obtain ⟨z, i, rfl, hz, hr, q⟩ := q2
    exact ⟨z, i, r2, hz, hr, g _ _ _ _ _ q a2 (k1.trans k2) rfl⟩⟩⟩
instance st_rep1 : Step (dRep1 to2 tm2 y y2 ρ μ Q) (to2 ρ μ (dRep1a tm2 y y2 ρ Q)) := ⟨fun q => w_rep1 q⟩
instance st_rep1a : Step (dRep1a tm2 y y2 ρ Q (.str x) μ) (tm2 ρ μ (dRep1b x y y2 Q)) := ⟨fun q => w_rep1a q⟩
structure PAL2 [Jx] (X : Cx) (es : List Expr) (ta : TA) (t : TA2) : Prop where
  pa : PAT X es ta
  re : RA X.K ta t
theorem al_nil [Jx] : PAL2 X [] tNil dNil := ⟨pat_nil, (a_nil (X := X)).re⟩
theorem al_cons [Jx] (ha : PE2 X e te te2) (hr : PAL2 X es tl tl2) (hs : starEach (e :: es) X.env = (false, eval e X.env) :: starEach es X.env := by rfl) : PAL2 X (e :: es) (tCons te tl) (dCons te2 tl2) :=
  ⟨pat_cons (CwR.PET.of ha.pe) hr.pa hs, fun ρ μ Q2 q I σ H hA hS Q g => ha.re ρ μ _ q I σ H hA hS _ fun x μ1 vx I1 H1 q1 a1 k1 r1 => hr.re ρ μ1 _ q1 I1 σ H1 a1 (hS.mono k1.ex) _ fun xs μ2 vs I2 H2 q2 a2 k2 r2 =>
    g (x :: xs) μ2 (vx :: vs) I2 H2 q2 a2 (k1.trans k2) (RpA.cons (r1.mono k2.ex) r2)⟩
theorem al_consL [Jx] (ha : PEL2 X e te te2) (hr : PAL2 X es tl tl2) (hs : starEach (e :: es) X.env = (false, eval e X.env) :: starEach es X.env := by rfl) : PAL2 X (e :: es) (tCons te tl) (dCons te2 tl2) :=
  ⟨pat_cons ha.pe hr.pa hs, fun ρ μ Q2 q I σ H hA hS Q g => ha.re ρ μ _ q I σ H hA hS _ fun x μ1 vx I1 H1 q1 a1 k1 r1 => hr.re ρ μ1 _ q1 I1 σ H1 a1 (hS.mono k1.ex) _ fun xs μ2 vs I2 H2 q2 a2 k2 r2 =>
    g (x :: xs) μ2 (vx :: vs) I2 H2 q2 a2 (k1.trans k2) (RpA.cons (r1.mono k2.ex) r2)⟩
theorem l_lst [Jx] (h : PAL2 X es tl tl2) : PEL2 X (.List es pos) (tLst tl) (dLst tl2) :=
  ⟨pet_lst h.pa, fun ρ μ Q2 q I σ H hA hS Q g => h.re ρ μ _ q I σ H hA hS _ fun ds μ1 vs I1 H1 q1 a1 k1 r1 => ⟨by rw [r1.length]; exact q1.1, go_newL q1 a1 r1 (g.past k1)⟩⟩
theorem l_ix [Jx] (ha : PEL2 X a ta ta2) (hb : PE2 X b tb tb2) (hs : PlainIx b) : PEL2 X (.Subscript a b pos) (tOp (rIx X.K) ta tb) (dOp dIx ta2 tb2) := by
  refine ⟨?_, re_op rr_ix ha.re hb.re⟩
  intro pins s σ H Q h0 I h
  refine Subscript_ ?_
  refine thn (ha.pe pins s σ H _ h0 I h) fun v s1 ⟨x, H1, I1, r1, q1⟩ => ?_
  refine thn (hb.pe.run pins s1 σ H1 _ I1 q1) fun u s2 ⟨y, H2, I2, r2, q2⟩ => ?_
  exact ix_seq a b pins s2 σ H2 x y v u Q I2 r1 r2 q2 (hs _ _)
end
end Y

set_option Elab.async false
set_option linter.all false
set_option maxRecDepth 100000
set_option maxHeartbeats 4000000
namespace Y
open PySem PySem.Spec PyProof.Rows L2
/-! enumerate of a tuple -/
theorem enum1_new {v : Value} {o : Obj} {H : Heap → Prop} (B : Begins v o H) :
    Meets (Builtin.«enumerate.__new__» ⟨[.type "enumerate", v], []⟩) (fun _ R s => H s.heap ∧
      R (.ok (.ret (.ref (s.heap.push o).objs.size))) { s with heap := (s.heap.push o).push { cls := .type "enumerate", data := .fields #[.none, .bool false, .ref s.heap.objs.size, rawInt 0, .none, .none] } }) :=
  .of_wp fun prog w A R s h => by
    obtain ⟨hp, g, d, tk, os⟩ := s; obtain ⟨hb, h⟩ := h
    have hsub := sub_enumerate
    have q1 : ∀ {A' : Around} {E : Value → Shared → Prop} {Q : Value → Shared → Prop}, Q (.ref hp.objs.size) ⟨hp.push o, g, d, tk, os⟩ → wpAny (model prog w) A' (pyIter v) Q E ⟨hp, g, d, tk, os⟩ :=
      fun q => B.iter prog w _ _ ⟨hp, g, d, tk, os⟩ _ hb q
    wp_walk using q1
    refine wpAny_stack_any fun st => wpAny_pure ?_
    split
    · rename_i c _ _ _ _ _
      cases (c == Value.type "enumerate")
      · wp_walk using q1
        exact ⟨_, rfl, h⟩
      · wp_walk using q1
        exact ⟨_, rfl, h⟩
    · wp_walk using q1
      exact ⟨_, rfl, h⟩
theorem enum1_call {prog : Program} {w : World} {A : Around} {E : Value → Shared → Prop} {s : Shared} {v : Value} {o : Obj} {H : Heap → Prop} {Q : Value → Shared → Prop} (B : Begins v o H) (hb : H s.heap)
    (h : ∀ h', IsEnum h' (s.heap.objs.size + 1) s.heap.objs.size 0 .none → h'.get? s.heap.objs.size = some o → h'.objs.size = s.heap.objs.size + 2 →
      (∀ b o, s.heap.get? b = some o → h'.get? b = some o) → Q (.ref (s.heap.objs.size + 1)) { s with heap := h' }) :
    wpAny (model prog w) A (call (.type "enumerate") [v]) Q E s := by
  refine callType_new F.called_enumerate (by decide) (F.typeCall_enumerate_1 _) (F.newCall_enumerate_1 _) (fun obj => F.args_object_init_2 obj _) F.entry_enumerate_new (enum1_new B) ⟨hb, ?_⟩
  have hz : (s.heap.push o).objs.size = s.heap.objs.size + 1 := Heap.size_push ..
  show _ ∧ _
  rw [hz]
  have he : IsEnum ((s.heap.push o).push { cls := .type "enumerate", data := .fields #[.none, .bool false, .ref s.heap.objs.size, rawInt 0, .none, .none] }) (s.heap.objs.size + 1) s.heap.objs.size 0 .none := by
    have := Heap.get?_push_size (s.heap.push o) (o := { cls := .type "enumerate", data := .fields #[.none, .bool false, .ref s.heap.objs.size, rawInt 0, .none, .none] }) rfl
    rw [hz] at this; exact this
  exact ⟨⟨_, he, rfl⟩, h _ he (Heap.get?_push_of_some _ (Heap.get?_push_size _ B.free)) (by rw [Heap.size_push, hz]) fun b o x => Heap.get?_push_of_some _ (Heap.get?_push_of_some _ x)⟩
def IteT (K : PySem.W.Frag) (a : Addr) : It :=
  ⟨fun i H => ∃ (xs : List V) (x : V), SqB true K H a xs ∧ xs[i]? = some x, fun i H v H' => ∃ T x, v = .ref T ∧ H T = none ∧ H' = upd H T (.tup [.int (i : Nat), x]) ∧ ∀ xs, SqB true K H a xs → xs[i]? = some x, fun i H => ∃ xs : List V, SqB true K H a xs ∧ xs.length ≤ i⟩
theorem turnET {P : Program} {w : World} {K : PySem.W.Frag} {elts : List Expr} {kk : Nat} {tpos : Pos} (a e it : Addr) :
    Turn P w K (.Tuple elts kk tpos) (IteT K a) [e, it] e (fun i h => (∃ old, IsEnum h e it ((i : Nat) : Int) old) ∧ WalkB true h it a i ∧ e ≠ it ∧ a ≠ it ∧ a ≠ e) where
  mem := by simp
  obj := fun i h st b hb => by
    obtain ⟨⟨old, he⟩, hw, _⟩ := st
    have e' : b = e ∨ b = it := by simpa using hb
    rcases e' with z | z
    · rw [z]; exact ⟨_, he, fun v q => nomatch q⟩
    · rw [z]; exact walkb_obj hw
  keep := fun i h h' st k => let ⟨⟨old, he⟩, hw, n1, n2⟩ := st; ⟨⟨old, k e (by simp) _ he⟩, walkb_at hw (k it (by simp)), n1, n2⟩
  item := by
    intro X hP hw hK hc i pins s σ H E I hf st hg
    subst hP hw hK
    obtain ⟨⟨old, he⟩, hit, hne, n2, n3⟩ := st
    obtain ⟨xs, x, hq, hx⟩ := hg
    obtain ⟨its, rv, hb, _⟩ := sqb_has I hq
    obtain ⟨u, hu, ru⟩ := rv.get hx
    have hel : e < s.heap.objs.size := Heap.lt_size he
    have hil : it < s.heap.objs.size := by obtain ⟨_, q, _⟩ := walkb_obj hit; exact Heap.lt_size q
    have bi : i < its.toArray.size := by have := (List.getElem?_eq_some_iff.mp hx).1; have := rv.length; simp only [List.size_toArray]; omega
    have hh : X.A.in1.handled = none := I.ok.hd hc
    refine wpAny_pyNext_enum_itemC (drawsB true hh it a n2 its.toArray) he ⟨hit, hb⟩ bi hne (by simp [hne, n3.symm]) fun x0 h' tk hx0 ho hst hT hsz hk => ?_
    have ex : u = x0 := by rw [List.getElem?_toArray] at hx0; exact Option.some.inj (hu.symm.trans hx0)
    subst ex
    refine ⟨_, rfl, wpAny_letOwnedTupleGo_enum (s := { s with heap := h', toks := tk + 1 }) ho fun h'' he' sb => ?_⟩
    have hT2 : h''.get? s.heap.objs.size = some { cls := .type "tuple", data := .seq #[.int i tk, u] } := (sb.2 _ (Nat.ne_of_gt hel)).trans hT
    have new : ObjOk X.prog X.w (upd H s.heap.objs.size (.tup [.int (i : Nat), x])) h'' s.heap.objs.size (.tup [.int (i : Nat), x]) :=
      ⟨by show 2 ≤ sizeLine; decide, [.int i tk, u], .cons ⟨_, rfl⟩ (.cons ru .nil), ⟨_, hT2, rfl, _, rfl⟩⟩
    have I1 : Inv X pins σ (upd H s.heap.objs.size (.tup [.int (i : Nat), x])) { s with heap := h'', toks := tk + 1 } :=
      I.turnedNew (ch := [e, it]) (fun b ob hb q => (sb.2 b (fun z => hb (by simp [z]))).trans (hk b ob (fun z => hb (by simp [z])) (fun z => hb (by simp [z])) q)) hf (Nat.le_refl _) new
    refine ⟨.ref s.heap.objs.size, _, I1, rfl, ⟨_, x, rfl, I.hok.fresh (Nat.le_refl _), rfl, fun ys hy => by rw [sqb_one I hy hq]; exact hx⟩, ⟨⟨u, ?_⟩, walkb_at hst.1 (fun o q => (sb.2 it (Ne.symm hne)).trans q), hne, n2, n3⟩, fun b hb => ?_⟩
    · have e1 : ((i + 1 : Nat) : Int) = (i : Int) + 1 := by omega
      rw [e1]; exact he'
    · have hb' : b < s.heap.objs.size := by
        have e' : b = e ∨ b = it := by simpa using hb
        rcases e' with z | z
        · rw [z]; exact hel
        · rw [z]; exact hil
      rw [upd_ne (Nat.ne_of_lt hb')]
      exact (hf b hb).1
  done := by
    intro X hP hw hK hc i pins s σ H E I hf st hg
    subst hP hw hK
    obtain ⟨⟨old, he⟩, hit, hne, n2, n3⟩ := st
    obtain ⟨xs, hq, hx⟩ := hg
    obtain ⟨its, rv, hb, _⟩ := sqb_has I hq
    obtain ⟨f0, f1, f2, f3, f4, f5⟩ := hf it (by simp)
    have hl : its.toArray.size = xs.length := by rw [List.size_toArray]; exact rv.length.symm
    have hh : X.A.in1.handled = none := I.ok.hd hc
    obtain ⟨m, R, St, d, g, g1, g2⟩ := draws_any (P := X.prog) (w := X.w) true hh it a n2 its.toArray i
    have em : i = m := g2 (by omega)
    subst em
    exact wpAny_pyNext_enum_endD d he (g _ hit hb) fun h' eb => ⟨rfl, I.turned (t' := s.toks) (fun b o hb q => eb b o hb q) f0 f1 f3 f4 f5⟩
  self := fun A i s Q E st h => let ⟨⟨_, he⟩, _⟩ := st; wpAny_pyIter_enum he h
def iEnumT (K : PySem.W.Frag) (ta : TA) : TI := fun σ H R => ta σ H fun vs H1 => ∃ a xs, vs = [.ref a] ∧ SqB true K H1 a xs ∧ R (IteT K a) H1
theorem pi_enumT {X : Cx} {e : Expr} {ta : TA} {p pos tpos : Pos} {elts : List Expr} {kk : Nat} (hg : Gl X "enumerate") (hm : X.mg "enumerate" = none) (ha : PA X [e] ta) (hs : starEach [e] X.env = [(false, eval e X.env)] := by rfl) :
    PI X (.Tuple elts kk tpos) (.Call (.Name "enumerate" p) [e] [] pos) (iEnumT X.K ta) := by
  refine ⟨fun pins s σ H R I h => ?_⟩
  refine Call_ (ld_blt I hg hm boot_enumerate (PyProof.Rows.callWith_type1 (thn (ha.run pos pins s σ H _ I h) fun us s1 ⟨vs, H1, I1, r1, q1⟩ => ?_) hs rfl))
  obtain ⟨a, xs, ex, hq, q⟩ := q1
  subst ex
  cases r1 with
  | cons r rr =>
    cases rr
    cases r
    obtain ⟨its, rv, hb, alt⟩ := sqb_has I1 hq
    refine enum1_call (beginsB true a its.toArray) hb fun h' he hit hsz hk => wpAny_pyIter_enum he ?_
    have I2 : Inv X pins σ H1 { s1 with heap := h' } := I1.kept (t' := s1.toks) hk
    refine ⟨s1.heap.objs.size + 1, [s1.heap.objs.size + 1, s1.heap.objs.size], _, _, H1, rfl, I2, turnET a (s1.heap.objs.size + 1) s1.heap.objs.size, ⟨⟨.none, he⟩, begB_walk hit, Nat.succ_ne_self _, Nat.ne_of_lt alt, Nat.ne_of_lt (Nat.lt_succ_of_lt alt)⟩, fun b hb => ?_, q⟩
    have e' : b = s1.heap.objs.size + 1 ∨ b = s1.heap.objs.size := by simpa using hb
    have hle : s1.heap.objs.size ≤ b := by
      rcases e' with z | z
      · rw [z]; exact Nat.le_add_right _ _
      · rw [z]; exact Nat.le_refl _
    exact I1.fpOk hle (I1.hok.fresh hle)
variable {X : Cx} {K : PySem.W.Frag} {a : Expr} {tl : TA} {tl2 : TA2} {pos p tpos : Pos} {ρ : Env2} {μ : Mu}
def jETK (R : JR) : List D → Mu → Prop := fun xs μ1 => ∃ ds, xs = [.tup ds] ∧ R (enuD 0 ds) (fun _ => True) μ1
def jET (ta : TA2) : TI2 := fun ρ μ R => ta ρ μ (jETK R)
theorem w_jETK {R : JR} {ds : List D} (q : R (enuD 0 ds) (fun _ => True) μ) : jETK R [.tup ds] μ := ⟨ds, rfl, q⟩
theorem j_eT [Jx] {elts : List Expr} {kk : Nat} (hg : Gl X "enumerate") (hm : X.mg "enumerate" = none) (ha : PA2 X [a] tl tl2) (hs : starEach [a] X.env = [(false, eval a X.env)] := by rfl) :
    PI2 X (.Tuple elts kk tpos) (.Call (.Name "enumerate" p) [a] [] pos) (iEnumT X.K tl) (jET tl2) :=
  ⟨pi_enumT hg hm ha.pa hs, fun ρ μ R2 q I σ H hA hS R k => ha.re ρ μ _ q I σ H hA hS _ fun xs μ1 vs I1 H1 q1 a1 k1 r1 => by
    obtain ⟨ds, rfl, q1⟩ := q1
    obtain ⟨v, rfl, e1⟩ := r1.one_inv
    obtain ⟨p1, us, rfl, g1, g2⟩ := e1
    have hs1 : Exx I1 H1 := a1.sub
    refine ⟨p1, us, rfl, hs1.sqt g1, k _ _ _ _ _ _ q1 a1 k1 fun i I' μ' H' e a g => ?_⟩
    have hst : SqB true X.K H' p1 us := (show Exx I' H' from a.sub).sqt (e.sqt g1)
    have hrp : RpA X.K I' ds us := g2.mono e
    rw [enuD_len]
    refine ⟨fun hi => ?_, fun hi => ⟨us, hst, by rw [hrp.length]; omega⟩⟩
    obtain ⟨v, f1, f2⟩ := hrp.get (List.getElem?_eq_getElem hi)
    refine ⟨⟨us, v, hst, f1⟩, fun u H2 y => ?_⟩
    obtain ⟨T, x1, rfl, hT, rfl, y1⟩ := y
    have e1 := y1 us hst
    rw [f1] at e1; cases e1
    obtain ⟨I2, b1, b2, b3⟩ := pair_new (d1 := .int (i : Nat)) (v1 := .int (i : Nat)) a hT rfl f2
    have eg := enuD_get (n := 0) (List.getElem?_eq_getElem hi)
    rw [Nat.zero_add] at eg
    exact ⟨_, I2, eg, b1, b2, b3⟩⟩
instance st_jET {R : JR} : Step (jET tl2 ρ μ R) (tl2 ρ μ (jETK R)) := ⟨fun q => q⟩
instance st_jETK {R : JR} {ds : List D} : Step (jETK R [.tup ds] μ) (R (enuD 0 ds) (fun _ => True) μ) := ⟨fun q => w_jETK q⟩
end Y

set_option Elab.async false
set_option linter.all false
set_option maxRecDepth 100000
set_option maxHeartbeats 4000000
namespace Y
open PySem PySem.Spec PyProof.Rows L2
/-! exceptions that stand as values: C(..), isinstance of them, their fields -/
/-- C(e, ..) as a value, C's own __init__ keeping sp -/
def tMkV (C : Addr) (sp : Sp) (ta : TA) : TE := fun σ H Q => ta σ H fun vs H1 => vs.length ≤ 1000 ∧ ∀ a, H1 a = none → sp (.ref a :: vs) (upd H1 a (exo a C none)) (fun v H2 => v = .non ∧ Q (.ref a) H2) (fun _ _ _ => False)
section
variable {X : Cx} {e : Expr} {es : List Expr} {ta : TA} {p pos : Pos} {CX : CXT} {x : Str} {C fI : Addr} {k : Nat} {fd : FuncData} {ps : List Str} {sp : Sp}
theorem run_mkV {pins : List (Addr × Obj)} {σ : L2.St} {H1 : Hp} {Q : VK} {s1 : Shared} {us : List Value} {vs : List V} (T : OexC X.K C) (iC : PySem.W.findIn X.K (.ref C) "__init__" = some (some (.ref fI))) (tI : PySem.W.typeIn X.K (.ref fI) = some (.type "function"))
    (F1 : FnOk X.prog X.w X.K X.mg X.base CX k fI fd ps sp) (hr : Room (k + 1) X.A) (hb : Binds X.K fd ps []) (hx : Passes CX X (fun _ _ _ => False)) (I1 : Inv X pins σ H1 s1) (r1 : Vals vs us) (hz : vs.length ≤ 1000)
    (q1 : ∀ a, H1 a = none → sp (.ref a :: vs) (upd H1 a (exo a C none)) (fun v H2 => v = .non ∧ Q (.ref a) H2) (fun _ _ _ => False)) :
    wpAny (model X.prog X.w) X.A (call (.ref C) us) (EP X pins σ Q) X.xe s1 := by
  obtain ⟨nm, q, N, bs, bm, sn, sub, ab, col, dd, k0, k1, k2, k3, k5, hC, hbm⟩ := T.cls
  obtain ⟨hp, g, dr, tk, os⟩ := s1
  have hsz : hp.objs.size ≤ hp.objs.size + 1 := Nat.le_succ _
  have hn : H1 (hp.objs.size + 1) = none := I1.hok.fresh hsz
  have hq := q1 (hp.objs.size + 1) hn
  have kk : ∀ b o, hp.get? b = some o → ((hp.push (PySem.W.kdv_tup us)).push (PySem.HandSPX.excO C hp.objs.size)).get? b = some o := fun b o e => Heap.get?_push_of_some _ (Heap.get?_push_of_some _ e)
  have hget : ((hp.push (PySem.W.kdv_tup us)).push (PySem.HandSPX.excO C hp.objs.size)).get? (hp.objs.size + 1) = some (PySem.HandSPX.excO C hp.objs.size) := by heap_get
  have I2 : Inv X pins σ (upd H1 (hp.objs.size + 1) (exo (hp.objs.size + 1) C none)) ⟨(hp.push (PySem.W.kdv_tup us)).push (PySem.HandSPX.excO C hp.objs.size), g, dr, tk, os⟩ :=
    I1.laid (t' := tk) (a := hp.objs.size + 1) (o := exo (hp.objs.size + 1) C none) (h' := (hp.push (PySem.W.kdv_tup us)).push (PySem.HandSPX.excO C hp.objs.size)) kk hsz (exo_ok hget)
  have r2 : Vals (V.ref (hp.objs.size + 1) :: vs) (Value.ref (hp.objs.size + 1) :: us) := .cons rfl r1
  have hl : (Value.ref (hp.objs.size + 1) :: us ++ []).length = ps.length := by
    have e := r2.length
    rw [F1.len _ _ _ _ hq] at e
    rw [List.append_nil]
    exact e.symm
  have hus : us.length ≤ sizeLine := by
    rw [← Paired.length r1, sizeLine_eq]
    omega
  refine wpAny_call (PySem.HandSPX.call_own F.excBase_ValueError (fun Y => PySem.HandSPX.refsVE_contains Y bm hbm) (I1.kIn _ _ hC) (PySem.W.looks_findIn I1.kIn iC) (fun self => PySem.W.bind_fn I1.kIn self tI) hus
    (codeAny_mono (F1.run _ X.stack _ _ ⟨Value.ref (hp.objs.size + 1) :: us, []⟩ (Value.ref (hp.objs.size + 1) :: us) _ _ (fun _ _ _ => False) (hr.make C us []) (I2.env0.make C us []) (by have := hb _ (Value.ref (hp.objs.size + 1) :: us) I2.kIn hl; rwa [List.append_nil] at this) r2 hq) fun r s' hq' => ?_))
  cases r with
  | error er => exact hx pins σ _ _ er s' I2 hq'
  | ok fl =>
    cases fl with
    | ret u =>
      obtain ⟨v, H2, os2, bare2, un2, hok2, rv, ev, q2⟩ := hq'
      subst ev
      obtain ⟨h2, g2, d2, t2, os'⟩ := s'
      exact ⟨rv, .ref (hp.objs.size + 1), H2, I2.call' (ch := []) os2 un2 hok2 bare2 (fun b z => absurd z (by simp)), rfl, q2⟩
    | next => exact False.elim hq'
    | brk => exact False.elim hq'
    | cont => exact False.elim hq'
theorem pe_mkV (T : OexC X.K C) (iC : PySem.W.findIn X.K (.ref C) "__init__" = some (some (.ref fI))) (tI : PySem.W.typeIn X.K (.ref fI) = some (.type "function"))
    (F1 : FnOk X.prog X.w X.K X.mg X.base CX k fI fd ps sp) (hr : Room (k + 1) X.A) (hb : Binds X.K fd ps []) (hx : Passes CX X (fun _ _ _ => False)) (hg : Gl X x) (hm : X.mg x = some (.ref C)) (ha : PA X (e :: es) ta)
    (hdb : (x == ("__debug__" : Str)) = false := by decide) (he : starEach (e :: es) X.env = (false, eval e X.env) :: starEach es X.env := by rfl) (hpl : (backTo pos (starEach es X.env)).any (·.1) = false := by rfl) :
    PE X (.Call (.Name x p) (e :: es) [] pos) (tMkV C sp ta) := by
  refine ⟨fun pins s σ H Q I h => ?_⟩
  refine wpAny_Call_Name_kw (ld_glob I hg hm ?_ hdb)
  refine PySem.W.callWith_K (h₀ := X.base) I.ok.mod.kin T.kC (thn (ha.run pos pins s σ H _ I h) fun us s1 ⟨vs, H1, I1, r1, hz, q1⟩ => ⟨I1.kIn, ?_⟩) he hpl
  exact run_mkV T iC tI F1 hr hb hx I1 r1 hz q1
theorem pe_mkV0 (T : OexC X.K C) (iC : PySem.W.findIn X.K (.ref C) "__init__" = some (some (.ref fI))) (tI : PySem.W.typeIn X.K (.ref fI) = some (.type "function"))
    (F1 : FnOk X.prog X.w X.K X.mg X.base CX k fI fd ps sp) (hr : Room (k + 1) X.A) (hb : Binds X.K fd ps []) (hx : Passes CX X (fun _ _ _ => False)) (hg : Gl X x) (hm : X.mg x = some (.ref C))
    (hdb : (x == ("__debug__" : Str)) = false := by decide) :
    PE X (.Call (.Name x p) [] [] pos) (tMkV C sp tNil) := by
  refine ⟨fun pins s σ H Q I h => ?_⟩
  refine wpAny_Call_Name_kw (ld_glob I hg hm ?_ hdb)
  obtain ⟨hz, q1⟩ := h
  exact PySem.W.callWith_K0 I.kIn T.kC (run_mkV (us := []) T iC tI F1 hr hb hx I .nil hz q1)
end
/-- what an __init__ promises that stores nothing -/
def spX0 (C : Addr) : Sp := fun vs H Q _ => ∃ a, vs = [.ref a] ∧ H a = some (exo a C none) ∧ Q .non H
theorem read0 {K : PySem.W.Frag} {C : Addr} {t : Str} {vs : List V} {H : Hp} {Q : VK} {E : XK} {N : List Str} (T : OexC K C) (h : spX0 C vs H Q E) :
    tSeq (tDrop (tVeI K (tCons (tVar 0) (tCons (tC (.str t)) tNil)))) tNext { nx := fun _ H' => Q .non H', rt := Q } (start N vs) H := by
  obtain ⟨a, rfl, ha, q⟩ := h
  exact ⟨_, rfl, a, C, [.str t], rfl, by show 1 ≤ 1000; decide, T, ha, q⟩
/-- the class of an exception without fields, with its promise -/
structure Xi0 (P : Program) (w : World) (K : PySem.W.Frag) (mg : Str → Option Value) (base : Heap) (x : Str) (C : Addr) : Prop where
  oex : OexC K C
  gl : mg x = some (.ref C)
  of : ∃ f fd, FnOk P w K mg base CX0 1 f fd ["self"] (spX0 C) ∧ PySem.W.findIn K (.ref C) "__init__" = some (some (.ref f)) ∧ PySem.W.typeIn K (.ref f) = some (.type "function") ∧ Binds K fd ["self"] []
theorem Xk.ok0 {P : Program} {w : World} {K : PySem.W.Frag} {mg : Str → Option Value} {base : Heap} {x q : Str} {C : Addr} {st : Stmt} (T : Xk K mg x q C st []) (S : FnScope ["self"] ["self"] (defScope st))
    (hb : ∀ (f : Addr) (cdv : Value) (A : Around) (outer : List Env) (s : Shared) (H : Hp) (E : XK), ∃ t, PSs (cxOf CX0 P w K mg base ["self"] q (defScope st) f cdv A outer s H E).nox (defBody st) t ∧ ∀ vs H Q E, spX0 C vs H Q E → t { nx := fun _ H' => Q .non H', rt := Q } (start ["self"] vs) H) : Xi0 P w K mg base x C := by
  obtain ⟨f, fd, F, h1, h2, h3⟩ := T.of
  refine ⟨T.oex, T.gl, f, fd, F.ok (k := 0) S (fun vs H Q E h => ?_) (fun cdv A outer s H vs Q E hr h => ?_), h1, h2, h3⟩
  · obtain ⟨a, rfl, _⟩ := h
    rfl
  · obtain ⟨t, ht, hq⟩ := hb f cdv A outer s H E
    exact ⟨t, ht, hq vs H Q E h⟩
section
variable {X : Cx} {K : PySem.W.Frag} {e o c : Expr} {es : List Expr} {te to : TE} {te2 to2 : TE2} {pos cpos p tpos : Pos} {tl : TA} {tl2 : TA2} {x : Str} {C : Addr}
variable {ρ : Env2} {μ : Mu} {Q : DK} {k j : Nat} {ns : List Str}
/-- C(..) as a value -/
def dMkX (C : Addr) (ns : List Str) (t : TA2) : TE2 := fun ρ μ Q => t ρ μ fun ds μ1 => ds.length = ns.length ∧ ∀ p, μ1 p = none → Q (.adr p) (mup μ1 p (.exc C (ns.zip ds).reverse))
def dMkXK (C : Addr) (ns : List Str) (Q : DK) : List D → Mu → Prop := fun ds μ1 => ds.length = ns.length ∧ ∀ p, μ1 p = none → Q (.adr p) (mup μ1 p (.exc C (ns.zip ds).reverse))
theorem w_mkX (h : tl2 ρ μ (dMkXK C ns Q)) : dMkX C ns tl2 ρ μ Q := h
theorem w_mkXK {ds : List D} (l : ds.length = ns.length) (q : ∀ p, μ p = none → Q (.adr p) (mup μ p (.exc C (ns.zip ds).reverse))) : dMkXK C ns Q ds μ := ⟨l, q⟩
theorem e_mkX [Jx] (T : Xi X.prog X.w X.K X.mg X.base x C ns) (hr : Room k X.A) (hg : Gl X x) (ha : PA2 X (e :: es) tl tl2) (hn : ns.length ≤ 900 := by decide) (hk : 2 ≤ k := by first | decide | omega) (hdb : (x == ("__debug__" : Str)) = false := by decide)
    (he : starEach (e :: es) X.env = (false, eval e X.env) :: starEach es X.env := by rfl) (hpl : (backTo pos (starEach es X.env)).any (·.1) = false := by rfl) :
    PE2 X (.Call (.Name x p) (e :: es) [] pos) (tMkV C (spX C ns) tl) (dMkX C ns tl2) := by
  obtain ⟨f, fd, F, h1, h2, h3⟩ := T.of
  refine ⟨pe_mkV T.oex h1 h2 F (hr.mono hk) h3 pass0 hg T.gl ha.pa hdb he hpl, fun ρ μ Q2 q I σ H hA hS Q g => ?_⟩
  refine ha.re ρ μ _ q I σ H hA hS _ fun ds μ1 vs I1 H1 q1 a1 k1 r1 => ?_
  obtain ⟨hl, q1⟩ := q1
  have hl2 : vs.length = ns.length := r1.length.trans hl
  refine ⟨by omega, fun a hna => ?_⟩
  refine ⟨a, vs, rfl, hl2, upd_same, fun dx H' hdx hne e1 e2 e3 => ⟨rfl, ?_⟩⟩
  have hd1 : H1 dx = none := by rw [upd_ne hne] at hdx; exact hdx
  have eq : H' = upd (upd H1 dx (exd dx (ns.zip vs).reverse)) a (exo a C (some dx)) := by
    funext b
    by_cases hb : b = a
    · rw [hb, upd_same, e1]
    · rw [upd_ne hb]
      by_cases hb2 : b = dx
      · rw [hb2, upd_same, e2]
      · rw [upd_ne hb2, e3 b hb hb2, upd_ne hb]
  rw [eq]
  have a2 := a1.laid (o := exd dx (ns.zip vs).reverse) hd1
  have hna2 : (upd H1 dx (exd dx (ns.zip vs).reverse)) a = none := by rw [upd_ne hne.symm]; exact hna
  have r : RpO X.K (upd I1 dx (exd dx (ns.zip vs).reverse)) a (.exc C (ns.zip ds).reverse) (exo a C (some dx)) :=
    ⟨some dx, _, .inl rfl, (RpF.mono (Exx.new (a1.noI hd1)) ((RpF.zip hl.symm r1).rev)), .inr ⟨dx, rfl, .inl upd_same⟩⟩
  exact g _ _ _ _ _ (q1 a (a1.noM hna)) (a2.got hna2 r) ((k1.trans (Kp.laid hd1 (a1.noI hd1))).trans (Kp.got hna2)) rfl
def dMkX0 (C : Addr) : TE2 := fun ρ μ Q => ∀ p, μ p = none → Q (.adr p) (mup μ p (.exc C []))
theorem w_mkX0 (q : ∀ p, μ p = none → Q (.adr p) (mup μ p (.exc C []))) : dMkX0 C ρ μ Q := q
theorem e_mkX0 [Jx] (T : Xi0 X.prog X.w X.K X.mg X.base x C) (hr : Room k X.A) (hg : Gl X x) (hk : 2 ≤ k := by first | decide | omega) (hdb : (x == ("__debug__" : Str)) = false := by decide) :
    PE2 X (.Call (.Name x p) [] [] pos) (tMkV C (spX0 C) tNil) (dMkX0 C) := by
  obtain ⟨f, fd, F, h1, h2, h3⟩ := T.of
  refine ⟨pe_mkV0 T.oex h1 h2 F (hr.mono hk) h3 pass0 hg T.gl hdb, fun ρ μ Q2 q I σ H hA hS Q g => ?_⟩
  refine ⟨Nat.zero_le _, fun a hna => ⟨a, rfl, upd_same, rfl, ?_⟩⟩
  exact g _ _ _ _ _ (q a (hA.noM hna)) (hA.got hna ⟨none, [], .inl rfl, .nil, .inl ⟨rfl, rfl⟩⟩) (Kp.got hna) rfl
/-- the root of the exceptions, made as a value -/
structure Rv (K : PySem.W.Frag) (mg : Str → Option Value) (x : Str) (R : Addr) (bmB : List Value) (newId : String) : Prop where
  mg : mg x = some (.ref R)
  ex : PySem.W.excIn K R bmB newId = true
  kp : PySem.W.keepIn K (.ref R) = true
def dMkR (C : Addr) (t : TE2) : TE2 := fun ρ μ Q => t ρ μ fun _ μ1 => ∀ p, μ1 p = none → Q (.adr p) (mup μ1 p (.exc C []))
def dMkRK (C : Addr) (Q : DK) : DK := fun _ μ1 => ∀ p, μ1 p = none → Q (.adr p) (mup μ1 p (.exc C []))
theorem w_mkR (h : te2 ρ μ (dMkRK C Q)) : dMkR C te2 ρ μ Q := h
theorem w_mkRK {d : D} (q : ∀ p, μ p = none → Q (.adr p) (mup μ p (.exc C []))) : dMkRK C Q d μ := q
theorem e_mkR [Jx] {bmB : List Value} {B newId initId : String} (F : ExcBaseFacts B newId initId bmB) (T : Rv X.K X.mg x C bmB newId) (hg : Gl X x) (he2 : PE2 X e te te2) (hs : starEach [e] X.env = (false, eval e X.env) :: starEach [] X.env := by rfl) (hdb : (x == ("__debug__" : Str)) = false := by decide) :
    PE2 X (.Call (.Name x p) [e] [] pos) (fun σ H Q => te σ H fun _ H1 => ∀ a, H1 a = none → Q (.ref a) (upd H1 a (ExO (.ref C) a))) (dMkR C te2) :=
  ⟨pe_exc1 F T.ex T.mg T.kp hg he2.pe hs hdb, fun ρ μ Q2 q I σ H hA hS Q g => he2.re ρ μ _ q I σ H hA hS _ fun d μ1 v I1 H1 q1 a1 k1 r1 a hna =>
    g _ _ _ _ _ (q1 a (a1.noM hna)) (a1.got hna ⟨none, [], .inr (.inl ⟨rfl, rfl⟩), .nil, .inl ⟨rfl, rfl⟩⟩) (k1.trans (Kp.got hna)) rfl⟩
end
/-! ### isinstance -/
theorem exh_at {X : Cx} {pins : List (Addr × Obj)} {σ : L2.St} {H : Hp} {s : Shared} {a C : Addr} {d : Option Addr} {o : HO} (I : Inv X pins σ H s) (ho : H a = some o) (x : ExH a C d o) : ∃ (oe : Obj) (vs : Array Value), s.heap.get? a = some oe ∧ Zc (.ref C) d oe ∧ oe.data = .fields vs := by
  rcases x with rfl | ⟨rfl, rfl⟩ | rfl
  · obtain ⟨t1, h⟩ := exo_at I.hok ho
    exact ⟨_, _, h, ⟨rfl, rfl⟩, rfl⟩
  · obtain ⟨⟨oe, vs, h1, h2, h3, _⟩, _, _⟩ := I.hok a _ ho
    exact ⟨oe, vs, h1, h2, h3⟩
  · obtain ⟨⟨oe, vs, h1, h2, h3⟩, _, _⟩ := I.hok a _ ho
    exact ⟨oe, vs, h1, h2, h3⟩
theorem exd_ns {X : Cx} {pins : List (Addr × Obj)} {σ : L2.St} {H : Hp} {s : Shared} {dx : Addr} {hfs : List (Str × V)} (I : Inv X pins σ H s) (h : H dx = some (exd dx hfs) ∨ H dx = some (.xd hfs)) : ∃ mA, s.heap.Ns1 dx mA ∧ ∀ f, RelO (hfs.lookup f) (mA f) := by
  rcases h with h | h
  · exact exd_at I.hok h
  · exact (show ObjOk X.prog X.w H s.heap dx (.xd hfs) from I.hok dx _ h)
theorem exh_inst {X : Cx} {pins : List (Addr × Obj)} {σ : L2.St} {H : Hp} {s : Shared} {a C : Addr} {d : Option Addr} {o : HO} {hfs : List (Str × V)} (I : Inv X pins σ H s) (ho : H a = some o) (x : ExH a C d o) (y : ExD H d hfs) : ∃ ox od, PySem.W.InstAt s.heap a ox C od := by
  obtain ⟨oe, vs, h1, h2, h3⟩ := exh_at I ho x
  rcases y with ⟨rfl, _⟩ | ⟨dx, rfl, hd⟩
  · exact ⟨oe, none, h1, h2.1, by unfold PySem.W.notCls; rw [h3] <;> rfl, by rw [h2.2]; trivial⟩
  · obtain ⟨mA, hns, _⟩ := exd_ns I hd
    obtain ⟨od, hod, _⟩ := lookIn_ns hns
    exact ⟨oe, some od, h1, h2.1, by unfold PySem.W.notCls; rw [h3] <;> rfl, by rw [h2.2]; exact hod⟩
def rIsXv (K : PySem.W.Frag) : List V → Hp → VK → Prop := fun xs H Q => ∃ (a D : Addr) (d : Option Addr) (o : HO) (hfs : List (Str × V)) (c : V) (cv : Value) (b : Bool), xs = [.ref a, c] ∧ H a = some o ∧ ExH a D d o ∧ ExD H d hfs ∧ ExcC K D ∧ ClsV c cv ∧ PySem.W.kitOne K (.ref D) cv = some b ∧ Q (.bl b) H
def rIsXvT (K : PySem.W.Frag) : List V → Hp → VK → Prop := fun xs H Q => ∃ (a D tp : Addr) (d : Option Addr) (o : HO) (hfs : List (Str × V)) (cs : List V) (us : List Value) (b : Bool), xs = [.ref a, .ref tp] ∧ H a = some o ∧ ExH a D d o ∧ ExD H d hfs ∧ ExcC K D ∧ H tp = some (.tup cs) ∧ Paired ClsV cs us ∧ PySem.W.kitAny K (.ref D) us = some b ∧ Q (.bl b) H
theorem call_isXv {X : Cx} : CallR X (.builtin "isinstance") (rIsXv X.K) := by
  intro pins s σ H xs us Q I r h
  obtain ⟨a, D, d, o, hfs, c, cv, b, rfl, ha, xh, xd, C, k, e, q⟩ := h
  obtain ⟨u1, u2, rfl, r1, r2⟩ := vals2 r
  cases (show u1 = Value.ref a from r1)
  have ec := k.eq r2
  subst ec
  obtain ⟨ox, od, J⟩ := exh_inst I ha xh xd
  exact PySem.W.kia_one (PySem.W.xd_kit C) I.kIn ⟨_, J⟩ e (fun z => nomatch z) fun tk => ⟨.bl b, H, I.kept (t' := tk) fun _ _ z => z, rfl, q⟩
theorem call_isXvT {X : Cx} : CallR X (.builtin "isinstance") (rIsXvT X.K) := by
  intro pins s σ H xs us Q I r h
  obtain ⟨a, D, tp, d, o, hfs, cs, ws, b, rfl, ha, xh, xd, C, hT, k, e, q⟩ := h
  obtain ⟨u1, u2, rfl, r1, r2⟩ := vals2 r
  cases (show u1 = Value.ref a from r1)
  cases (show u2 = Value.ref tp from r2)
  obtain ⟨ox, od, J⟩ := exh_inst I ha xh xd
  obtain ⟨_, its, rv, o2, h1, h2, n, h3⟩ := (show ObjOk X.prog X.w H s.heap tp (.tup cs) from I.hok tp _ hT)
  have e3 := ClsV.all k rv
  subst e3
  obtain ⟨oc, odc, dt, sl⟩ := o2
  simp only at h2 h3
  subst h2 h3
  exact PySem.W.kia_tup (PySem.W.xd_kit C) I.kIn ⟨_, J⟩ h1 e (fun z => nomatch z) fun tk => ⟨.bl b, H, I.kept (t' := tk) fun _ _ z => z, rfl, q⟩
section
variable {X : Cx} {K : PySem.W.Frag} {C : Addr} {fs : List (Str × D)} {e c : Expr} {es : List Expr} {te : TE} {te2 : TE2} {tl : TA} {tl2 : TA2} {p pos tpos : Pos} {ρ : Env2} {μ : Mu} {Q : DK} {x : Str} {a : Addr}
theorem exc_own [Jx] {I H : Hp} (hA : At K μ I H) (h : μ a = some (.exc C fs)) : ∃ d o hfs, H a = some o ∧ ExH a C d o ∧ RpF K I fs hfs ∧ ExD H d hfs := by
  obtain ⟨_, o, ho, d, hfs, h1, h2, h3⟩ := hA.own a _ h
  refine ⟨d, o, hfs, ho, h1, h2, ?_⟩
  rcases h3 with h3 | ⟨dx, h3, h4⟩
  · exact .inl h3
  · exact .inr ⟨dx, h3, h4.elim (fun z => .inl (hA.sub _ _ z)) fun z => .inr (hA.sub _ _ z)⟩
def dIsXv (K : PySem.W.Frag) : DRC := fun xs μ Q => ∃ a C fs y u b, xs = [.adr a, y] ∧ μ a = some (.exc C fs) ∧ ClsD y u ∧ ExcC K C ∧ PySem.W.kitOne K (.ref C) u = some b ∧ Q (.bl b) μ
theorem w_isE {y : D} {u : Value} {b : Bool} (h : μ a = some (.exc C fs)) (h1 : ClsD y u) (h2 : ExcC K C) (h3 : PySem.W.kitOne K (.ref C) u = some b) (q : Q (.bl b) μ) : dIsXv K [.adr a, y] μ Q := ⟨a, C, fs, y, u, b, rfl, h, h1, h2, h3, q⟩
theorem rc_isXv [Jx] : RC K (rIsXv K) (dIsXv K) := fun xs μ Q2 q I H vs hA r Q k => by
  obtain ⟨a, C, fs, y, u, b, rfl, hm, h1, h2, h3, q⟩ := q
  obtain ⟨v, w, rfl, e1, e2⟩ := r.two_inv
  cases (show v = _ from e1)
  obtain ⟨d, o, hfs, ho, xh, _, xd⟩ := exc_own hA hm
  exact ⟨a, C, d, o, hfs, w, u, b, rfl, ho, xh, xd, h2, h1.rel e2, h3, k _ _ _ _ _ q hA Kp.refl rfl⟩
theorem e_isE [Jx] (K : PySem.W.Frag) (hK : X.K = K) (hg : Gl X "isinstance") (hm : X.mg "isinstance" = none) (ha : PA2 X [e, c] tl tl2) (hv : bootBuiltins "isinstance" = some (.builtin "isinstance") := by decide +kernel)
    (he : starEach [e, c] X.env = (false, eval e X.env) :: starEach [c] X.env := by rfl) (hpl : (backTo pos (starEach [c] X.env)).any (·.1) = false := by rfl) :
    PE2 X (.Call (.Name "isinstance" p) [e, c] [] pos) (tCB (rIsXv X.K) tl) (dCB (dIsXv K) tl2) := by
  subst hK
  exact e_cb call_isXv (rc_isXv (K := X.K)) hg hm hv ha (he := he) (hpl := hpl)
/-- .. of a tuple of classes -/
def dIsXvT (K : PySem.W.Frag) (te : TE2) (t : TA2) : TE2 := fun ρ μ Q => te ρ μ fun x μ1 => t ρ μ1 fun ys μ2 => ∃ a C fs us b, x = .adr a ∧ μ2 a = some (.exc C fs) ∧ ClsDs ys us ∧ ys.length ≤ sizeLine ∧ ExcC K C ∧ PySem.W.kitAny K (.ref C) us = some b ∧ Q (.bl b) μ2
def dIsXvTK (K : PySem.W.Frag) (Q : DK) (x : D) : List D → Mu → Prop := fun ys μ2 => ∃ a C fs us b, x = .adr a ∧ μ2 a = some (.exc C fs) ∧ ClsDs ys us ∧ ys.length ≤ sizeLine ∧ ExcC K C ∧ PySem.W.kitAny K (.ref C) us = some b ∧ Q (.bl b) μ2
theorem w_isET (h : te2 ρ μ fun x μ1 => tl2 ρ μ1 (dIsXvTK K Q x)) : dIsXvT K te2 tl2 ρ μ Q := h
theorem w_isETK {ys : List D} {us : List Value} {b : Bool} (h : μ a = some (.exc C fs)) (h1 : ClsDs ys us) (hl : ys.length ≤ sizeLine) (h2 : ExcC K C) (h3 : PySem.W.kitAny K (.ref C) us = some b) (q : Q (.bl b) μ) : dIsXvTK K Q (.adr a) ys μ := ⟨a, C, fs, us, b, rfl, h, h1, hl, h2, h3, q⟩
theorem e_isET [Jx] {x1} (K : PySem.W.Frag) (hK : X.K = K) (hg : Gl X "isinstance") (hm : X.mg "isinstance" = none) (he2 : PE2 X e te te2) (hl : PA2 X es tl tl2)
    (hv : bootBuiltins "isinstance" = some (.builtin "isinstance") := by decide +kernel) (he : starEach [e, .Tuple es x1 tpos] X.env = (false, eval e X.env) :: starEach [.Tuple es x1 tpos] X.env := by rfl)
    (hpl : (backTo pos (starEach [.Tuple es x1 tpos] X.env)).any (·.1) = false := by rfl) (hs2 : starEach [.Tuple es x1 tpos] X.env = (false, eval (.Tuple es x1 tpos) X.env) :: starEach [] X.env := by rfl) :
    PE2 X (.Call (.Name "isinstance" p) [e, .Tuple es x1 tpos] [] pos) (tCB (rIsXvT X.K) (tCons te (tCons (tTup tl) tNil))) (dIsXvT K te2 tl2) := by
  subst hK
  exact ⟨pe_callB call_isXvT hg hm hv (pa_cons he2.pe (pa_cons (pe_tup hl.pa) pa_nil hs2) he) (he := he) (hpl := hpl), fun ρ μ Q2 q I σ H hA hS Q g => he2.re ρ μ _ q I σ H hA hS _ fun x μ1 v I1 H1 q1 a1 k1 r1 => by
    refine hl.re ρ μ1 _ q1 I1 σ H1 a1 (hS.mono k1.ex) _ ?_
    rintro ys μ2 vs I2 H2 ⟨a, C, fs, us, b, rfl, hmu, h1, hz2, h2, h3, q2⟩ a2 k2 r2
    cases (show v = _ from r1)
    refine ⟨by rw [r2.length]; exact hz2, fun tp htp => ?_⟩
    have a3 := a2.extra (o := .tup vs) htp
    obtain ⟨d, o, hfs, ho, xh, _, xd⟩ := exc_own a3 hmu
    exact ⟨a, C, tp, d, o, hfs, vs, us, b, rfl, ho, xh, xd, h2, upd_same, h1.rel r2, h3, g _ _ _ _ _ q2 a3 ((k1.trans k2).trans (Kp.extra htp)) rfl⟩⟩
/-! ### fields -/
def tXfV (K : PySem.W.Frag) (n : Str) (te : TE) : TE := fun σ H Q => te σ H fun x H1 => ∃ (a C dx : Addr) (o : HO) (hfs : List (Str × V)) (v : V), x = .ref a ∧ H1 a = some o ∧ ExH a C (some dx) o ∧ (H1 dx = some (exd dx hfs) ∨ H1 dx = some (.xd hfs)) ∧ XfC K C ∧ PySem.W.findIn K (.ref C) n = some none ∧ hfs.lookup n = some v ∧ Q v H1
theorem pe_xfV {n : Str} (he : PE X e te) (hb : attributeBase e n X.env (eval e X.env) = eval e X.env := by rfl) : PE X (.Attribute e n pos) (tXfV X.K n te) := by
  refine ⟨fun pins s σ H Q I h => ?_⟩
  refine attr_of hb (thn (he.run pins s σ H _ I h) fun u s1 hh => ?_)
  obtain ⟨x, H1, I1, rx, a, C, dx, o, hfs, v, ex, ho, xh, hd, T, hno, l, q⟩ := hh
  subst ex
  obtain rfl : u = Value.ref a := rx
  obtain ⟨oe, vs, h1, h2, h3⟩ := exh_at I1 ho xh
  obtain ⟨mA, hns, hr⟩ := exd_ns I1 hd
  obtain ⟨od, hod, hl⟩ := lookIn_ns hns
  obtain ⟨u, hu, ru⟩ := RelO.some_of (v := v) (o := mA n) (by rw [← l]; exact hr n)
  have J : PySem.W.InstAt s1.heap a oe C (some od) := ⟨h1, h2.1, by unfold PySem.W.notCls; rw [h3] <;> rfl, by rw [h2.2]; exact hod⟩
  exact HandSPX.exc_get I1.kIn J T.ga T.gg T.exC (PySem.W.findObj_own T.hdC hno rfl (by rw [hl, hu])) (handed_of ru) ⟨v, H1, I1.tok _, ru, q⟩
/-- o.n, o an exception that stands as a value -/
def dXfV (K : PySem.W.Frag) (n : Str) (te : TE2) : TE2 := fun ρ μ Q => te ρ μ fun x μ1 => ∃ a C fs y, x = .adr a ∧ μ1 a = some (.exc C fs) ∧ XfC K C ∧ PySem.W.findIn K (.ref C) n = some none ∧ fs.lookup n = some y ∧ Q y μ1
def dXfVK (K : PySem.W.Frag) (n : Str) (Q : DK) : DK := fun x μ1 => ∃ a C fs y, x = .adr a ∧ μ1 a = some (.exc C fs) ∧ XfC K C ∧ PySem.W.findIn K (.ref C) n = some none ∧ fs.lookup n = some y ∧ Q y μ1
theorem w_xfV {n : Str} (h : te2 ρ μ (dXfVK K n Q)) : dXfV K n te2 ρ μ Q := h
theorem w_xfVK {n : Str} {y : D} (h : μ a = some (.exc C fs)) (h1 : XfC K C) (h2 : PySem.W.findIn K (.ref C) n = some none) (h3 : fs.lookup n = some y) (q : Q y μ) : dXfVK K n Q (.adr a) μ := ⟨a, C, fs, y, rfl, h, h1, h2, h3, q⟩
theorem RpF.lookX {I : Hp} {n : Str} : ∀ {fs : List (Str × D)} {hfs : List (Str × V)} {y : D}, RpF K I fs hfs → fs.lookup n = some y → ∃ v, hfs.lookup n = some v ∧ Rp K I y v
  | _, _, _, .nil, h => by cases h
  | (m, u) :: fs, (m', v) :: hfs, y, .cons h1 h2, h => by
    obtain ⟨e, r⟩ : m = m' ∧ Rp K I u v := h1
    subst e
    rw [List.lookup_cons] at h
    rw [List.lookup_cons]
    cases hb : n == m with
    | true => rw [hb] at h; cases h; exact ⟨v, rfl, r⟩
    | false => rw [hb] at h; exact RpF.lookX h2 h
theorem e_xfV [Jx] {n : Str} (K : PySem.W.Frag) (hK : X.K = K) (he : PE2 X e te te2) (hb : attributeBase e n X.env (eval e X.env) = eval e X.env := by rfl) : PE2 X (.Attribute e n pos) (tXfV X.K n te) (dXfV K n te2) := by
  subst hK
  refine ⟨pe_xfV he.pe hb, fun ρ μ Q2 q I σ H hA hS Q g => he.re ρ μ _ q I σ H hA hS _ ?_⟩
  rintro x μ1 v I1 H1 ⟨a, C, fs, y, rfl, hmu, T, hno, hl, q1⟩ a1 k1 r1
  cases (show v = _ from r1)
  obtain ⟨d, o, hfs, ho, xh, rf, xd⟩ := exc_own a1 hmu
  obtain ⟨z, hz, rz⟩ := RpF.lookX rf hl
  rcases xd with ⟨_, rfl⟩ | ⟨dx, rfl, hd⟩
  · cases hz
  · exact ⟨a, C, dx, o, hfs, z, rfl, ho, xh, hd, T, hno, hz, g _ _ _ _ _ q1 a1 k1 rz⟩
end
section
variable {K : PySem.W.Frag} {ρ : Env2} {μ : Mu} {Q : DK} {C : Addr} {te2 : TE2} {tl2 : TA2} {n m : Str}
instance st_mkX {ns : List Str} : Step (dMkX C ns tl2 ρ μ Q) (tl2 ρ μ (dMkXK C ns Q)) := ⟨fun q => q⟩
theorem w_mkX1 {d : D} (q : ∀ p, μ p = none → Q (.adr p) (mup μ p (.exc C [(n, d)]))) : dMkXK C [n] Q [d] μ := ⟨rfl, q⟩
theorem w_mkX2 {d e : D} (q : ∀ p, μ p = none → Q (.adr p) (mup μ p (.exc C [(m, e), (n, d)]))) : dMkXK C [n, m] Q [d, e] μ := ⟨rfl, q⟩
instance hd_mkXK {ns : List Str} {ds : List D} : HdC (dMkXK C ns Q ds μ) := ⟨id⟩
instance hd_mkX0 : HdC (dMkX0 C ρ μ Q) := ⟨id⟩
instance hd_mkRK {d : D} : HdC (dMkRK C Q d μ) := ⟨id⟩
instance st_mkR : Step (dMkR C te2 ρ μ Q) (te2 ρ μ (dMkRK C Q)) := ⟨fun q => q⟩
instance st_xfV : Step (dXfV K n te2 ρ μ Q) (te2 ρ μ (dXfVK K n Q)) := ⟨fun q => q⟩
instance st_isET {te2' : TE2} : Step (dIsXvT K te2' tl2 ρ μ Q) (te2' ρ μ fun x μ1 => tl2 ρ μ1 (dIsXvTK K Q x)) := ⟨fun q => q⟩
end
/-! ### which class is which: one look for all of them -/
/-- each of these classes is of its own kind alone -/
def QA (K : PySem.W.Frag) (xs : List (Nat × Addr)) : Prop := ∀ p ∈ xs, ∀ q ∈ xs, PySem.W.kitOne K (.ref p.2) (.ref q.2) = some (decide (p.1 = q.1))
def qaB (xs : List (Nat × Str)) : Fb := fun K => xs.all fun p => xs.all fun q => decide (PySem.W.kitOne K (.ref (He.ga K p.2)) (.ref (He.ga K q.2)) = some (decide (p.1 = q.1)))
theorem qa_mk {K : PySem.W.Frag} {xs : List (Nat × Str)} (c : qaB xs K = true) : QA K (xs.map fun p => (p.1, He.ga K p.2)) := fun p hp q hq => by
  obtain ⟨p, hp2, rfl⟩ := List.mem_map.mp hp
  obtain ⟨q, hq2, rfl⟩ := List.mem_map.mp hq
  exact of_decide_eq_true (List.all_eq_true.mp (List.all_eq_true.mp c p hp2) q hq2)
/-- .. and over the root, which is of none of them -/
def QR (K : PySem.W.Frag) (r : Addr) (xs : List (Nat × Addr)) : Prop := PySem.W.kitOne K (.ref r) (.type "ValueError") = some true ∧ ∀ p ∈ xs, PySem.W.kitOne K (.ref p.2) (.ref r) = some true ∧ PySem.W.kitOne K (.ref p.2) (.type "ValueError") = some true ∧ PySem.W.kitOne K (.ref r) (.ref p.2) = some false
def qrB (r : Str) (xs : List (Nat × Str)) : Fb := fun K => decide (PySem.W.kitOne K (.ref (He.ga K r)) (.type "ValueError") = some true) && xs.all fun p => decide (PySem.W.kitOne K (.ref (He.ga K p.2)) (.ref (He.ga K r)) = some true) && (decide (PySem.W.kitOne K (.ref (He.ga K p.2)) (.type "ValueError") = some true) && decide (PySem.W.kitOne K (.ref (He.ga K r)) (.ref (He.ga K p.2)) = some false))
theorem qr_mk {K : PySem.W.Frag} {r : Str} {xs : List (Nat × Str)} (c : qrB r xs K = true) : QR K (He.ga K r) (xs.map fun p => (p.1, He.ga K p.2)) := by
  obtain ⟨c0, c⟩ := He.ba c
  refine ⟨of_decide_eq_true c0, fun p hp => ?_⟩
  obtain ⟨p, hp2, rfl⟩ := List.mem_map.mp hp
  obtain ⟨c1, c2⟩ := He.ba (List.all_eq_true.mp c p hp2)
  obtain ⟨c2, c3⟩ := He.ba c2
  exact ⟨of_decide_eq_true c1, of_decide_eq_true c2, of_decide_eq_true c3⟩
abbrev BMV : List Value := [.type "ValueError", .type "Exception", .type "BaseException", .type "object"]
/-- the root, made as a value -/
def rvB (x : Str) (bmB : List Value) : Fb := fun K => (He.Fa.glo x).ok K && (PySem.W.excIn K (He.ga K x) bmB "ValueError.__new__" && PySem.W.keepIn K (.ref (He.ga K x)))
theorem rv_mk {K : PySem.W.Frag} {h : Heap} {mg : Str → Option Value} {bmB : List Value} (X : K.In h) (G : h.Ns mainGlobals mg) {x : Str} (c : rvB x bmB K = true) : Rv K mg x (He.ga K x) bmB "ValueError.__new__" := by
  obtain ⟨c1, c⟩ := He.ba c
  obtain ⟨c2, c3⟩ := He.ba c
  exact ⟨He.glo_ok X G c1, c2, c3⟩
end Y

set_option Elab.async false
set_option linter.all false
set_option maxRecDepth 100000
set_option pp.maxSteps 1500
set_option maxHeartbeats 4000000
open PySem PySem.Spec PyProof.Rows L2 Y in
section
end
local macro_rules | `(tactic| walk_at "ne") => `(tactic| exact Y.ne_new' (by assumption) (by walk_at "mu"))
local macro_rules | `(tactic| walk_at "ne") => `(tactic| exact Y.ne_new (by assumption) (by walk_at "mu"))
local macro_rules | `(tactic| walk_at "ne") => `(tactic| exact (Y.ne_of_mup (by assumption)).symm)
local macro_rules | `(tactic| walk_at "ne") => `(tactic| exact Y.ne_of_mup (by assumption))
local macro_rules | `(tactic| walk_at "ne") => `(tactic| exact Y.ne_new' (by assumption) (by assumption))
local macro_rules | `(tactic| walk_at "ne") => `(tactic| exact Y.ne_new (by assumption) (by assumption))
local macro_rules | `(tactic| walk_at "ne") => `(tactic| (refine Ne.symm ?_; assumption))
local macro_rules | `(tactic| walk_at "ne") => `(tactic| assumption)
local macro_rules | `(tactic| walk_at "mu") => `(tactic| exact Y.look_ne (by walk_at "ne") (by walk_at "mu"))
local macro_rules | `(tactic| walk_at "mu") => `(tactic| exact Y.mup_same)
local macro_rules | `(tactic| walk_at "mu") => `(tactic| assumption)
local macro_rules | `(tactic| walk_at "as") => `(tactic| (with_reducible assumption))
local macro_rules | `(tactic| walk_at "as") => `(tactic| ((with_reducible refine' Y.asS_adr ?h); (case h => walk_at "mu")))
local macro_rules | `(tactic| walk_at "as") => `(tactic| ((with_reducible refine' Y.asL_adr ?h); (case h => walk_at "mu")))
local macro_rules | `(tactic| walk_at "as") => `(tactic| (with_reducible exact Y.asS_tup))
local macro_rules | `(tactic| walk_at "as") => `(tactic| (with_reducible exact Y.asS_lst))
local macro_rules | `(tactic| walk_at "as") => `(tactic| (with_reducible exact Y.asL_lst))
local macro_rules | `(tactic| walk_at "ty") => `(tactic| rfl)
local macro_rules | `(tactic| walk_at "ty") => `(tactic| ((with_reducible refine' Y.tyD_dk ?h); (case h => walk_at "mu")))
local macro_rules | `(tactic| walk_at "ty") => `(tactic| ((with_reducible refine' Y.tyD_lst ?h); (case h => walk_at "mu")))
local macro_rules | `(tactic| walk_at "ty") => `(tactic| (with_reducible assumption))
local macro_rules | `(tactic| walk_at "sz") => `(tactic| (refine Y.sz_lt ?_; decide +kernel))
local macro_rules | `(tactic| walk_at "sz") => `(tactic| (refine Y.sz_le ?_; decide +kernel))
local macro_rules | `(tactic| walk_at "sz") => `(tactic| (refine Y.sz_lt ?_; omega))
local macro_rules | `(tactic| walk_at "sz") => `(tactic| (refine Y.sz_le ?_; simp only [Y.len_app]; omega))
local macro_rules | `(tactic| walk_at "sz") => `(tactic| (refine Y.sz_le ?_; omega))
local macro_rules | `(tactic| walk_at "sz") => `(tactic| (refine Y.sz_lt ?_; simp only [List.length_cons, List.length_nil, List.length_append, List.length_map]; omega))
local macro_rules | `(tactic| walk_at "sz") => `(tactic| (refine Y.sz_le ?_; simp only [List.length_cons, List.length_nil, List.length_append, List.length_map]; omega))
local macro_rules | `(tactic| walk_at "sz") => `(tactic| (with_reducible assumption))
local macro_rules | `(tactic| walk_at "om") => `(tactic| (simp only [List.length_map, List.length_append, List.length_cons, List.length_nil]; omega))
local macro_rules | `(tactic| walk_at "om") => `(tactic| omega)
local macro_rules | `(tactic| walk_at "g") => `(tactic| (refine ⟨?_, ?_⟩ <;> walk_at "g"))
local macro_rules | `(tactic| walk_at "g") => `(tactic| (show Y.asL _ _ = _; walk_at "as"))
local macro_rules | `(tactic| walk_at "g") => `(tactic| trivial)
local macro_rules | `(tactic| walk_at "isi") => `(tactic| exact Y.isi_dt)
local macro_rules | `(tactic| walk_at "isi") => `(tactic| exact Y.isi_tt)
local macro_rules | `(tactic| walk_at "isi") => `(tactic| exact Y.isi_lt)
local macro_rules | `(tactic| walk_at "isi") => `(tactic| exact Y.isi_nt)
local macro_rules | `(tactic| walk_at "isi") => `(tactic| exact Y.isi_st)
local macro_rules | `(tactic| walk_at "isi") => `(tactic| exact Y.isi_bt)
local macro_rules | `(tactic| walk_at "isi") => `(tactic| exact Y.isi_it)
local macro_rules | `(tactic| walk_at "isi") => `(tactic| exact Y.isi_dl)
local macro_rules | `(tactic| walk_at "isi") => `(tactic| exact Y.isi_tl)
local macro_rules | `(tactic| walk_at "isi") => `(tactic| exact Y.isi_ll)
local macro_rules | `(tactic| walk_at "isi") => `(tactic| exact Y.isi_nl)
local macro_rules | `(tactic| walk_at "isi") => `(tactic| exact Y.isi_sl)
local macro_rules | `(tactic| walk_at "isi") => `(tactic| exact Y.isi_bl)
local macro_rules | `(tactic| walk_at "isi") => `(tactic| exact Y.isi_il)
local macro_rules | `(tactic| walk_at "isi") => `(tactic| exact Y.isi_ds)
local macro_rules | `(tactic| walk_at "isi") => `(tactic| exact Y.isi_ts)
local macro_rules | `(tactic| walk_at "isi") => `(tactic| exact Y.isi_ls)
local macro_rules | `(tactic| walk_at "isi") => `(tactic| exact Y.isi_ns)
local macro_rules | `(tactic| walk_at "isi") => `(tactic| exact Y.isi_ss)
local macro_rules | `(tactic| walk_at "isi") => `(tactic| exact Y.isi_bs)
local macro_rules | `(tactic| walk_at "isi") => `(tactic| exact Y.isi_is)
local macro_rules | `(tactic| walk_at "isi") => `(tactic| exact Y.isi_db)
local macro_rules | `(tactic| walk_at "isi") => `(tactic| exact Y.isi_tb)
local macro_rules | `(tactic| walk_at "isi") => `(tactic| exact Y.isi_lb)
local macro_rules | `(tactic| walk_at "isi") => `(tactic| exact Y.isi_nb)
local macro_rules | `(tactic| walk_at "isi") => `(tactic| exact Y.isi_sb)
local macro_rules | `(tactic| walk_at "isi") => `(tactic| exact Y.isi_bb)
local macro_rules | `(tactic| walk_at "isi") => `(tactic| exact Y.isi_ib)
local macro_rules | `(tactic| walk_at "isi") => `(tactic| exact Y.isi_di)
local macro_rules | `(tactic| walk_at "isi") => `(tactic| exact Y.isi_ti)
local macro_rules | `(tactic| walk_at "isi") => `(tactic| exact Y.isi_li)
local macro_rules | `(tactic| walk_at "isi") => `(tactic| exact Y.isi_ni)
local macro_rules | `(tactic| walk_at "isi") => `(tactic| exact Y.isi_si)
local macro_rules | `(tactic| walk_at "isi") => `(tactic| exact Y.isi_bi)
local macro_rules | `(tactic| walk_at "isi") => `(tactic| exact Y.isi_ii)
local macro_rules | `(tactic| walk_at "kl") => `(tactic| (refine' Y.kitL_miss ?h ?h2; (case h => walk_at "isi"); (case h2 => walk_at "kl")))
local macro_rules | `(tactic| walk_at "kl") => `(tactic| (refine' Y.kitL_hit ?h; (case h => walk_at "isi")))
local macro_rules | `(tactic| walk_at "kl") => `(tactic| exact Y.kitL_nil)
local macro_rules | `(tactic| walk_at "lk") => `(tactic| (refine' Y.lk_miss ?h ?h2; (case h => decide +kernel); (case h2 => walk_at "lk")))
local macro_rules | `(tactic| walk_at "lk") => `(tactic| exact Y.lk_hit)
local macro_rules | `(tactic| walk_at "ln") => `(tactic| (refine' Y.lk_no ?h ?h2; (case h => decide +kernel); (case h2 => walk_at "ln")))
local macro_rules | `(tactic| walk_at "ln") => `(tactic| exact Y.lk_nil)
local macro_rules | `(tactic| walk_at "sf") => `(tactic| (refine' Y.setF_miss ?h ?h2; (case h => decide +kernel); (case h2 => walk_at "sf")))
local macro_rules | `(tactic| walk_at "sf") => `(tactic| exact Y.setF_hit)
local macro_rules | `(tactic| walk_at "sf") => `(tactic| exact Y.setF_nil)
local macro_rules | `(tactic| walk_at "fl") => `(tactic| ((with_reducible refine' Y.fldsOf_obj ?h); (case h => rfl)))
local macro_rules | `(tactic| walk_at "fl") => `(tactic| ((with_reducible refine' Y.fldsOf_adr ?h); (case h => walk_at "mu")))
local macro_rules | `(tactic| walk_at "br") => `(tactic| ((with_reducible refine' Y.br_decF ?h ?_); (case h => first | assumption | decide +kernel | omega | (simp only [List.length_map, List.length_cons, List.length_nil]; omega))))
local macro_rules | `(tactic| walk_at "br") => `(tactic| ((with_reducible refine' Y.br_decT ?h ?_); (case h => first | (with_reducible rfl) | assumption | decide +kernel | omega | (simp only [List.length_map, List.length_cons, List.length_nil]; omega))))
local macro_rules | `(tactic| walk_at "br") => `(tactic| (with_reducible refine' Y.br_or ?_))
local macro_rules | `(tactic| walk_at "br") => `(tactic| (with_reducible refine' Y.br_and ?_))
local macro_rules | `(tactic| walk_at "br") => `(tactic| (with_reducible refine' Y.br_not ?_))
local macro_rules | `(tactic| walk_at "br") => `(tactic| (with_reducible refine' Y.br_f ?_))
local macro_rules | `(tactic| walk_at "br") => `(tactic| (with_reducible refine' Y.br_t ?_))
local macro_rules | `(tactic| walk_at "lg") => `(tactic| (refine Y.lg_small ?_; omega))
local macro_rules | `(tactic| walk_at "lg") => `(tactic| assumption)
local macro_rules | `(tactic| walk_at "pick") => `(tactic| ((with_reducible refine' Y.w_fld ?_); ((with_reducible refine' Y.w_var ?h ?_); (case h => rfl)); ((with_reducible refine' Y.w_fldK ?h ?h2 ?_); (case h => walk_at "fl"); (case h2 => walk_at "lk"))))
local macro_rules | `(tactic| walk_at "pick") => `(tactic| ((with_reducible refine' Y.w_meth ?_); ((with_reducible refine' Y.w_var ?h ?_); (case h => rfl)); ((with_reducible refine' Y.w_methK ?h ?h2 ?_); (case h => walk_at "fl"); (case h2 => walk_at "ln"))))
local macro_rules | `(tactic| walk_at "alt") => `(tactic| ((with_reducible refine' Y.w_altR ?_); walk_at "alt2"))
local macro_rules | `(tactic| walk_at "alt") => `(tactic| ((with_reducible refine' Y.w_altL ?_); walk_at "pick"))
local macro_rules | `(tactic| walk_at "alt2") => `(tactic| walk_at "pick")
local macro_rules | `(tactic| walk_at "alt2") => `(tactic| walk_at "alt")
local macro_rules | `(tactic| walk_at "yA") => `(tactic| ((with_reducible refine' Y.w_cutL ?h ?_); (case h => walk_at "as")))
local macro_rules | `(tactic| walk_at "yA") => `(tactic| ((with_reducible refine' Y.w_cutS ?h ?_); (case h => walk_at "sz")))
local macro_rules | `(tactic| walk_at "yA") => `(tactic| ((with_reducible refine' Y.w_lenS ?h ?_); (case h => walk_at "sz")))
local macro_rules | `(tactic| walk_at "yA") => `(tactic| ((with_reducible refine' Y.w_lenL ?h ?_); (case h => walk_at "as")))
local macro_rules | `(tactic| walk_at "yA") => `(tactic| ((with_reducible refine' Y.w_ixS ?h ?h2 ?_); (case h => walk_at "as"); (case h2 => rfl)))
local macro_rules | `(tactic| walk_at "yA") => `(tactic| ((with_reducible refine' Y.w_ixL ?h ?_); (case h => rfl)))
local macro_rules | `(tactic| walk_at "yA") => `(tactic| ((with_reducible refine' Y.w_ixT ?h ?_); (case h => rfl)))
local macro_rules | `(tactic| walk_at "yA") => `(tactic| (with_reducible refine' Y.w_ixL0 ?_))
local macro_rules | `(tactic| walk_at "yA") => `(tactic| (with_reducible refine' Y.w_ixT0 ?_))
local macro_rules | `(tactic| walk_at "yA") => `(tactic| ((with_reducible refine' Y.w_neD ?h ?h2 ?_); (case h => rfl); (case h2 => rfl)))
local macro_rules | `(tactic| walk_at "yA") => `(tactic| ((with_reducible refine' Y.w_neS ?h ?_); (case h => rfl)))
local macro_rules | `(tactic| walk_at "yA") => `(tactic| ((with_reducible refine' Y.w_eqD ?h ?h2 ?_); (case h => rfl); (case h2 => rfl)))
local macro_rules | `(tactic| walk_at "yA") => `(tactic| ((with_reducible refine' Y.w_eqS ?h ?_); (case h => rfl)))
local macro_rules | `(tactic| walk_at "yA") => `(tactic| ((with_reducible refine' Y.w_addL ?h ?h2 ?_); (case h => walk_at "as"); (case h2 => walk_at "as")))
local macro_rules | `(tactic| walk_at "yA") => `(tactic| ((with_reducible refine' Y.w_addS ?h ?_); (case h => walk_at "sz")))
local macro_rules | `(tactic| walk_at "yA") => `(tactic| ((with_reducible refine' Y.w_addT ?h ?_); (case h => walk_at "sz")))
local macro_rules | `(tactic| walk_at "yA") => `(tactic| (with_reducible refine' Y.w_fzL0 ?_))
local macro_rules | `(tactic| walk_at "yA") => `(tactic| (with_reducible refine' Y.w_fzL1 (by assumption) ?_))
local macro_rules | `(tactic| walk_at "yA") => `(tactic| (with_reducible refine' Y.w_fzN (by assumption) ?_))
local macro_rules | `(tactic| walk_at "yA") => `(tactic| ((with_reducible refine' Y.w_tupK ?h ?_); (case h => walk_at "sz")))
local macro_rules | `(tactic| walk_at "yB") => `(tactic| ((with_reducible refine' Y.w_lcK ?h ?_); (case h => walk_at "sz")))
local macro_rules | `(tactic| walk_at "yB") => `(tactic| ((with_reducible refine' Y.w_jVL ?h ?_); (case h => walk_at "as")))
local macro_rules | `(tactic| walk_at "yB") => `(tactic| ((with_reducible refine' Y.w_jEL ?h ?_); (case h => walk_at "as")))
local macro_rules | `(tactic| walk_at "yB") => `(tactic| ((with_reducible refine' Y.w_jZL ?h ?h2 ?_); (case h => walk_at "as"); (case h2 => walk_at "as")))
local macro_rules | `(tactic| walk_at "yB") => `(tactic| ((with_reducible refine' Y.w_jR2K ?h ?_); (case h => walk_at "om")))
local macro_rules | `(tactic| walk_at "yB") => `(tactic| ((with_reducible refine' Y.w_jR1K ?h ?h2 ?_); (case h => walk_at "om"); (case h2 => walk_at "om")))
local macro_rules | `(tactic| walk_at "yB") => `(tactic| ((with_reducible refine' Y.w_jLK ?h ?_); (case h => walk_at "as")))
local macro_rules | `(tactic| walk_at "yB") => `(tactic| ((with_reducible refine' Y.w_gNilE ?e ?_); (case e => rfl)))
local macro_rules | `(tactic| walk_at "yB") => `(tactic| ((with_reducible refine' Y.w_gConsE ?e ?_); (case e => rfl)))
local macro_rules | `(tactic| walk_at "yB") => `(tactic| ((with_reducible refine' Y.w_gUn ?h ?h2 ?_); (case h => walk_at "as"); (case h2 => rfl)))
local macro_rules | `(tactic| walk_at "yB") => `(tactic| ((with_reducible refine' Y.w_gUnT ?h ?_); (case h => rfl)))
local macro_rules | `(tactic| walk_at "yB") => `(tactic| ((with_reducible refine' Y.w_gIxK ?h ?h2 ?_); (case h => walk_at "mu"); (case h2 => rfl)))
local macro_rules | `(tactic| walk_at "yB") => `(tactic| ((with_reducible refine' Y.w_app ?h ?h2 ?_); (case h => walk_at "mu"); (case h2 => walk_at "sz")))
local macro_rules | `(tactic| walk_at "yB") => `(tactic| ((with_reducible refine' Y.w_tyL ?h ?_); (case h => walk_at "as")))
local macro_rules | `(tactic| walk_at "yB") => `(tactic| ((with_reducible refine' Y.w_newL ?h ?_); (case h => walk_at "sz")))
local macro_rules | `(tactic| walk_at "yB") => `(tactic| ((with_reducible refine' Y.w_jZLTK ?h ?_); (case h => walk_at "as")))
local macro_rules | `(tactic| walk_at "yB") => `(tactic| ((with_reducible refine' Y.w_jZTLK ?h ?_); (case h => walk_at "as")))
local macro_rules | `(tactic| walk_at "yC") => `(tactic| ((with_reducible refine' Y.w_isO ?h ?h1 ?h2 ?h3 ?_); (case h => walk_at "fl"); (case h1 => (refine' Y.ci_of ?a ?b; (case a => assumption); (case b => constructor))); (case h2 => exact Y.ClsD.own _); (case h3 => (refine' Y.kq_of ?a ?b; (case a => assumption); (case b => constructor)))))
local macro_rules | `(tactic| walk_at "yC") => `(tactic| ((with_reducible refine' Y.w_notInKd ?h ?_); (case h => rfl)))
local macro_rules | `(tactic| walk_at "yC") => `(tactic| ((with_reducible refine' Y.w_ixKd ?h ?_); (case h => rfl)))
local macro_rules | `(tactic| walk_at "yC") => `(tactic| ((with_reducible refine' Y.w_get2S ?h ?_); (case h => walk_at "mu")))
local macro_rules | `(tactic| walk_at "yC") => `(tactic| ((with_reducible refine' Y.w_get2K ?h ?_); (case h => walk_at "mu")))
local macro_rules | `(tactic| walk_at "yC") => `(tactic| ((with_reducible refine' Y.w_strI ?h ?_); (case h => walk_at "lg")))
local macro_rules | `(tactic| walk_at "yC") => `(tactic| ((with_reducible refine' Y.w_jsK ?h ?_); (case h => walk_at "sz")))
local macro_rules | `(tactic| walk_at "yC") => `(tactic| ((with_reducible refine' Y.w_jsK0 ?h ?_); (case h => walk_at "sz")))
local macro_rules | `(tactic| walk_at "yC") => `(tactic| ((with_reducible refine' Y.w_fmtI ?h ?_); (case h => walk_at "lg")))
local macro_rules | `(tactic| walk_at "yC") => `(tactic| ((with_reducible refine' Y.w_fmtS ?h ?_); (case h => walk_at "sz")))
local macro_rules | `(tactic| walk_at "yC") => `(tactic| ((with_reducible refine' Y.w_fzOK ?h ?_); (case h => walk_at "mu")))
local macro_rules | `(tactic| walk_at "yC") => `(tactic| ((with_reducible refine' Y.w_methK ?h ?h2 ?_); (case h => walk_at "fl"); (case h2 => walk_at "ln")))
local macro_rules | `(tactic| walk_at "yC") => `(tactic| ((with_reducible refine' Y.w_putFK ?h ?h2 ?h3 ?_); (case h => walk_at "mu"); (case h2 => walk_at "sf"); (case h3 => (simp only [List.length_cons, List.length_nil]; omega))))
local macro_rules | `(tactic| walk_at "yC") => `(tactic| ((with_reducible refine' Y.w_fldK ?h ?h2 ?_); (case h => walk_at "fl"); (case h2 => walk_at "lk")))
local macro_rules | `(tactic| walk_at "yC") => `(tactic| ((with_reducible refine' Y.w_notInDI ?h ?_); (case h => walk_at "mu")))
local macro_rules | `(tactic| walk_at "yC") => `(tactic| ((with_reducible refine' Y.w_notInDS ?h ?_); (case h => walk_at "mu")))
local macro_rules | `(tactic| walk_at "yC") => `(tactic| ((with_reducible refine' Y.w_inDI ?h ?_); (case h => walk_at "mu")))
local macro_rules | `(tactic| walk_at "yC") => `(tactic| ((with_reducible refine' Y.w_inDS ?h ?_); (case h => walk_at "mu")))
local macro_rules | `(tactic| walk_at "yC") => `(tactic| ((with_reducible refine' Y.w_dgetI ?h ?h2 ?_); (case h => walk_at "mu"); (case h2 => rfl)))
local macro_rules | `(tactic| walk_at "yC") => `(tactic| ((with_reducible refine' Y.w_dgetS ?h ?h2 ?_); (case h => walk_at "mu"); (case h2 => rfl)))
local macro_rules | `(tactic| walk_at "yC") => `(tactic| ((with_reducible refine' Y.w_dispE ?h ?e ?l ?_); (case h => walk_at "mu"); (case e => rfl); (case l => exact Nat.le_of_ble_eq_true rfl)))
local macro_rules | `(tactic| walk_at "yC") => `(tactic| ((with_reducible refine' Y.w_mkRK ?_); (intro p hp)))
local macro_rules | `(tactic| walk_at "yC") => `(tactic| ((with_reducible refine' Y.w_mkX0 ?_); (intro p hp)))
local macro_rules | `(tactic| walk_at "yC") => `(tactic| ((with_reducible refine' Y.w_mkX2 ?_); (intro p hp)))
local macro_rules | `(tactic| walk_at "yC") => `(tactic| ((with_reducible refine' Y.w_mkX1 ?_); (intro p hp)))
local macro_rules | `(tactic| walk_at "yC") => `(tactic| ((with_reducible refine' Y.w_dnew ?_); (intro p hp)))
local macro_rules | `(tactic| walk_at "yC") => `(tactic| ((with_reducible refine' Y.w_disp ?_); (intro p hp)))
local macro_rules | `(tactic| walk_at "yC") => `(tactic| ((with_reducible refine' Y.w_dputS ?h ?h2 ?_); (case h => walk_at "mu"); (case h2 => walk_at "sz")))
local macro_rules | `(tactic| walk_at "yC") => `(tactic| ((with_reducible refine' Y.w_dputI ?h ?h2 ?_); (case h => walk_at "mu"); (case h2 => walk_at "sz")))
local macro_rules | `(tactic| walk_at "yC") => `(tactic| ((with_reducible refine' Y.w_pop0 ?h ?_); (case h => walk_at "mu")))
local macro_rules | `(tactic| walk_at "yC") => `(tactic| ((with_reducible refine' Y.w_bmdK ?h ?_); (case h => walk_at "mu")))
local macro_rules | `(tactic| walk_at "yC") => `(tactic| ((with_reducible refine' Y.w_gFldK ?h ?e ?l ?_); (case h => walk_at "mu"); (case e => walk_at "sf"); (case l => (simp only [List.length_cons, List.length_nil]; omega))))
local macro_rules | `(tactic| walk_at "yE") => `(tactic| ((with_reducible refine' Y.w_isiTK ?h ?h2 ?_); (case h => walk_at "ty"); (case h2 => walk_at "kl")))
local macro_rules | `(tactic| walk_at "yE") => `(tactic| ((with_reducible refine' Y.w_revK ?h ?_); (case h => walk_at "as")))
local macro_rules | `(tactic| walk_at "yE") => `(tactic| ((with_reducible refine' Y.w_reverse ?h ?_); (case h => walk_at "mu")))
local macro_rules | `(tactic| walk_at "yE") => `(tactic| ((with_reducible refine' Y.w_clear ?h ?_); (case h => walk_at "mu")))
local macro_rules | `(tactic| walk_at "yE") => `(tactic| ((with_reducible refine' Y.w_extend ?h ?h2 ?h3 ?_); (case h => walk_at "mu"); (case h2 => walk_at "as"); (case h3 => walk_at "sz")))
local macro_rules | `(tactic| walk_at "yE") => `(tactic| ((with_reducible refine' Y.w_listOf ?h ?_); (case h => walk_at "as")))
local macro_rules | `(tactic| walk_at "yE") => `(tactic| ((with_reducible refine' Y.w_tupOf ?h ?_); (case h => walk_at "as")))
local macro_rules | `(tactic| walk_at "yE") => `(tactic| ((with_reducible refine' Y.w_isi ?h ?h2 ?_); (case h => walk_at "ty"); (case h2 => walk_at "isi")))
local macro_rules | `(tactic| walk_at "yE") => `(tactic| ((with_reducible refine' Y.w_lrg1K ?h ?_); (case h => exact L2.RgOk.of_le (by omega) (by omega) (by omega) (by omega))))
local macro_rules | `(tactic| walk_at "yE") => `(tactic| ((with_reducible refine' Y.w_jRv1K ?h ?_); (case h => walk_at "om")))
local macro_rules | `(tactic| walk_at "yE") => `(tactic| ((with_reducible refine' Y.w_notN0 ?h ?_); (case h => (intro z; cases z))))
local macro_rules | `(tactic| walk_at "yE") => `(tactic| ((with_reducible refine' Y.w_isN0 ?h ?_); (case h => (intro z; cases z))))
local macro_rules | `(tactic| walk_at "yE") => `(tactic| ((with_reducible refine' Y.w_shr ?h ?_); (case h => first | decide | omega)))
local macro_rules | `(tactic| walk_at "yE") => `(tactic| ((with_reducible refine' Y.w_shl ?h ?_); (case h => exact Y.cpow_small (by omega) (by omega) (by first | decide | omega))))
local macro_rules | `(tactic| walk_at "yE") => `(tactic| ((with_reducible refine' Y.w_shl1 ?h ?_); (case h => first | omega | assumption)))
local macro_rules | `(tactic| walk_at "yE") => `(tactic| ((with_reducible refine' Y.w_pow ?h ?_); (case h => exact Y.cpow_small (by omega) (by omega) (by decide))))
local macro_rules | `(tactic| walk_at "yE") => `(tactic| ((with_reducible refine' Y.w_fdiv ?h ?_); (case h => exact Y.cdiv_small (by omega) (by omega))))
local macro_rules | `(tactic| walk_at "yE") => `(tactic| ((with_reducible refine' Y.w_mod ?h ?_); (case h => first | decide | omega)))
local macro_rules | `(tactic| walk_at "yE") => `(tactic| ((with_reducible refine' Y.w_mulL ?h (by decide) (by decide) ?_); (case h => walk_at "as")))
local macro_rules | `(tactic| walk_at "yE") => `(tactic| ((with_reducible refine' Y.w_mulI ?h ?_); (case h => first | exact Y.cmul_r (by omega) (by omega) | exact Y.cmul_l (by omega) (by omega))))
local macro_rules | `(tactic| walk_at "yE") => `(tactic| ((with_reducible refine' Y.w_tupText ?h ?_); (case h => walk_at "sz")))
local macro_rules | `(tactic| walk_at "yE") => `(tactic| ((with_reducible refine' Y.w_listText ?h ?_); (case h => walk_at "sz")))
local macro_rules | `(tactic| walk_at "yl") => `(tactic| walk_at "alt")
local macro_rules | `(tactic| walk_at "yl") => `(tactic| (intro p hp; (with_reducible refine' Y.w_fzL1 (by assumption) ?_)))
local macro_rules | `(tactic| walk_at "yl") => `(tactic| (intro p hp; (with_reducible refine' Y.w_fzN (by assumption) ?_)))
local macro_rules | `(tactic| walk_at "y1") => `(tactic| walk_at "yl")
local macro_rules | `(tactic| walk_at "y1") => `(tactic| walk_at "br")
local macro_rules | `(tactic| walk_at "y1") => `(tactic| ((with_reducible refine' Y.HdE.go ?_); walk_at "yE"))
local macro_rules | `(tactic| walk_at "y1") => `(tactic| ((with_reducible refine' Y.HdC.go ?_); walk_at "yC"))
local macro_rules | `(tactic| walk_at "y1") => `(tactic| ((with_reducible refine' Y.HdB.go ?_); walk_at "yB"))
local macro_rules | `(tactic| walk_at "y1") => `(tactic| ((with_reducible refine' Y.HdA.go ?_); walk_at "yA"))
local macro_rules | `(tactic| walk_at "y1") => `(tactic| ((with_reducible refine' Y.w_var ?h ?_); (case h => rfl)))
local macro_rules | `(tactic| walk_at "y1") => `(tactic| (with_reducible refine' Y.Step.go ?_))
local macro_rules | `(tactic| walk_at "y") => `(tactic| repeat walk_at "y1")
local macro_rules | `(tactic| walk_at "t1") => `(tactic| ((with_reducible refine' Y.w_turn0E ?e ?h ?_); (case e => rfl); (case h => walk_at "g")))
local macro_rules | `(tactic| walk_at "t1") => `(tactic| ((with_reducible refine' Y.w_turnE ?e ?h ?_); (case e => rfl); (case h => walk_at "g")))
local macro_rules | `(tactic| walk_at "t1") => `(tactic| ((with_reducible refine' Y.w_lcs0E ?e ?h ?_); (case e => rfl); (case h => walk_at "g")))
local macro_rules | `(tactic| walk_at "t1") => `(tactic| ((with_reducible refine' Y.w_lcsE ?e ?h ?_); (case e => rfl); (case h => walk_at "g")))
local macro_rules | `(tactic| walk_at "t1") => `(tactic| ((with_reducible refine' Y.w_lcs0 ?h ?_); (case h => walk_at "g")))
local macro_rules | `(tactic| walk_at "t1") => `(tactic| ((with_reducible refine' Y.w_lcs ?h ?_); (case h => walk_at "g")))
local macro_rules | `(tactic| walk_at "t1") => `(tactic| ((with_reducible refine' Y.w_turn0 ?h ?_); (case h => walk_at "g")))
local macro_rules | `(tactic| walk_at "t1") => `(tactic| ((with_reducible refine' Y.w_turn ?h ?_); (case h => walk_at "g")))
local macro_rules | `(tactic| walk_at "t1") => `(tactic| (with_reducible refine' Y.Cl.same ?_))
local macro_rules | `(tactic| walk_at "c1") => `(tactic| ((with_reducible refine' Y.w_turn0E ?e ?h ?_); (case e => rfl); (case h => walk_at "g")))
local macro_rules | `(tactic| walk_at "c1") => `(tactic| ((with_reducible refine' Y.w_turnE ?e ?h ?_); (case e => rfl); (case h => walk_at "g")))
local macro_rules | `(tactic| walk_at "c1") => `(tactic| ((with_reducible refine' Y.w_lcs0E ?e ?h ?_); (case e => rfl); (case h => walk_at "g")))
local macro_rules | `(tactic| walk_at "c1") => `(tactic| ((with_reducible refine' Y.w_lcsE ?e ?h ?_); (case e => rfl); (case h => walk_at "g")))
local macro_rules | `(tactic| walk_at "c1") => `(tactic| ((with_reducible refine' Y.w_lcs0 ?h ?_); (case h => walk_at "g")))
local macro_rules | `(tactic| walk_at "c1") => `(tactic| ((with_reducible refine' Y.w_lcs ?h ?_); (case h => walk_at "g")))
local macro_rules | `(tactic| walk_at "c1") => `(tactic| ((with_reducible refine' Y.w_turn0 ?h ?_); (case h => walk_at "g")))
local macro_rules | `(tactic| walk_at "c1") => `(tactic| ((with_reducible refine' Y.w_turn ?h ?_); (case h => walk_at "g")))
local macro_rules | `(tactic| walk_at "yc") => `(tactic| repeat first | walk_at "y1" | walk_at "c1")
local macro_rules | `(tactic| walk_at "yt") => `(tactic| repeat first | walk_at "y1" | walk_at "t1")
local macro_rules | `(tactic| walk_at "less") => `(tactic| (refine ⟨Or.inr rfl, ?_⟩; walk_at "less"))
local macro_rules | `(tactic| walk_at "less") => `(tactic| (refine ⟨Or.inl rfl, ?_⟩; walk_at "less"))
local macro_rules | `(tactic| walk_at "less") => `(tactic| exact trivial)
local macro_rules | `(tactic| walk_at "non") => `(tactic| ((with_reducible refine' Y.none_sub ?s ?h); (case h => (with_reducible assumption)); (case s => walk_at "sub")))
local macro_rules | `(tactic| walk_at "non") => `(tactic| (with_reducible assumption))
local macro_rules | `(tactic| walk_at "sub") => `(tactic| ((with_reducible refine' Y.Sub.trans ?h (Y.Sub.new ?hp)); (case hp => (with_reducible assumption)); (case h => walk_at "sub")))
local macro_rules | `(tactic| walk_at "sub") => `(tactic| ((with_reducible refine' Y.Sub.del ?h ?hp); (case hp => walk_at "non"); (case h => walk_at "sub")))
local macro_rules | `(tactic| walk_at "sub") => `(tactic| ((with_reducible refine' Y.Sub.over ?h ?hp); (case hp => walk_at "non"); (case h => walk_at "sub")))
local macro_rules | `(tactic| walk_at "sub") => `(tactic| (with_reducible assumption))
local macro_rules | `(tactic| walk_at "sub") => `(tactic| (with_reducible exact Y.Sub.refl))

namespace W
open PySem PySem.Spec PyProof.Rows L2 Y
def topS (i : Nat) : Stmt := PySem.Challenge.pw_rowsbeneath_k04_refusals_apart.main.body.getD i (.Pass ⟨0, 0, 0, 0⟩)
abbrev sNoText_init : Stmt := inClass (topS 2) 0
abbrev nNoText_init : List Str := ["self", "place"]
theorem scNoText_init : FnScope ["self", "place"] ["self", "place"] (defScope sNoText_init) := ⟨rfl, rfl, rfl, by decide +kernel, rfl, by decide +kernel, by decide +kernel⟩
abbrev sTwice_init : Stmt := inClass (topS 3) 0
abbrev nTwice_init : List Str := ["self", "name"]
theorem scTwice_init : FnScope ["self", "name"] ["self", "name"] (defScope sTwice_init) := ⟨rfl, rfl, rfl, by decide +kernel, rfl, by decide +kernel, by decide +kernel⟩
abbrev sNoName_init : Stmt := inClass (topS 4) 0
abbrev nNoName_init : List Str := ["self", "name"]
theorem scNoName_init : FnScope ["self", "name"] ["self", "name"] (defScope sNoName_init) := ⟨rfl, rfl, rfl, by decide +kernel, rfl, by decide +kernel, by decide +kernel⟩
abbrev sNoFit_init : Stmt := inClass (topS 5) 0
abbrev nNoFit_init : List Str := ["self", "name"]
theorem scNoFit_init : FnScope ["self", "name"] ["self", "name"] (defScope sNoFit_init) := ⟨rfl, rfl, rfl, by decide +kernel, rfl, by decide +kernel, by decide +kernel⟩
abbrev sBadLine_init : Stmt := inClass (topS 6) 0
abbrev nBadLine_init : List Str := ["self", "line"]
theorem scBadLine_init : FnScope ["self", "line"] ["self", "line"] (defScope sBadLine_init) := ⟨rfl, rfl, rfl, by decide +kernel, rfl, by decide +kernel, by decide +kernel⟩
abbrev sNoKind_init : Stmt := inClass (topS 7) 0
abbrev nNoKind_init : List Str := ["self", "name"]
theorem scNoKind_init : FnScope ["self", "name"] ["self", "name"] (defScope sNoKind_init) := ⟨rfl, rfl, rfl, by decide +kernel, rfl, by decide +kernel, by decide +kernel⟩
abbrev sNoRow_init : Stmt := inClass (topS 8) 0
abbrev nNoRow_init : List Str := ["self", "row"]
theorem scNoRow_init : FnScope ["self", "row"] ["self", "row"] (defScope sNoRow_init) := ⟨rfl, rfl, rfl, by decide +kernel, rfl, by decide +kernel, by decide +kernel⟩
abbrev sNoState_init : Stmt := inClass (topS 9) 0
abbrev nNoState_init : List Str := ["self", "thing"]
theorem scNoState_init : FnScope ["self", "thing"] ["self", "thing"] (defScope sNoState_init) := ⟨rfl, rfl, rfl, by decide +kernel, rfl, by decide +kernel, by decide +kernel⟩
abbrev sBadStep_init : Stmt := inClass (topS 10) 0
abbrev nBadStep_init : List Str := ["self", "thing"]
theorem scBadStep_init : FnScope ["self", "thing"] ["self", "thing"] (defScope sBadStep_init) := ⟨rfl, rfl, rfl, by decide +kernel, rfl, by decide +kernel, by decide +kernel⟩
abbrev sNoPlaces_init : Stmt := inClass (topS 11) 0
abbrev nNoPlaces_init : List Str := ["self", "many"]
theorem scNoPlaces_init : FnScope ["self", "many"] ["self", "many"] (defScope sNoPlaces_init) := ⟨rfl, rfl, rfl, by decide +kernel, rfl, by decide +kernel, by decide +kernel⟩
abbrev sNoSize_init : Stmt := inClass (topS 12) 0
abbrev nNoSize_init : List Str := ["self", "thing"]
theorem scNoSize_init : FnScope ["self", "thing"] ["self", "thing"] (defScope sNoSize_init) := ⟨rfl, rfl, rfl, by decide +kernel, rfl, by decide +kernel, by decide +kernel⟩
abbrev sNoRoom_init : Stmt := inClass (topS 13) 0
abbrev nNoRoom_init : List Str := ["self", "kind", "lacking"]
theorem scNoRoom_init : FnScope ["self", "kind", "lacking"] ["self", "kind", "lacking"] (defScope sNoRoom_init) := ⟨rfl, rfl, rfl, by decide +kernel, rfl, by decide +kernel, by decide +kernel⟩
abbrev sCrowded_init : Stmt := inClass (topS 14) 0
abbrev nCrowded_init : List Str := ["self", "kind", "needed"]
theorem scCrowded_init : FnScope ["self", "kind", "needed"] ["self", "kind", "needed"] (defScope sCrowded_init) := ⟨rfl, rfl, rfl, by decide +kernel, rfl, by decide +kernel, by decide +kernel⟩
abbrev sNoBudget_init : Stmt := inClass (topS 15) 0
abbrev nNoBudget_init : List Str := ["self", "thing"]
theorem scNoBudget_init : FnScope ["self", "thing"] ["self", "thing"] (defScope sNoBudget_init) := ⟨rfl, rfl, rfl, by decide +kernel, rfl, by decide +kernel, by decide +kernel⟩
abbrev sWithin_init : Stmt := inClass (topS 16) 0
abbrev nWithin_init : List Str := ["self"]
theorem scWithin_init : FnScope ["self"] ["self"] (defScope sWithin_init) := ⟨rfl, rfl, rfl, by decide +kernel, rfl, by decide +kernel, by decide +kernel⟩
abbrev sNoChange_init : Stmt := inClass (topS 17) 0
abbrev nNoChange_init : List Str := ["self", "kind"]
theorem scNoChange_init : FnScope ["self", "kind"] ["self", "kind"] (defScope sNoChange_init) := ⟨rfl, rfl, rfl, by decide +kernel, rfl, by decide +kernel, by decide +kernel⟩
abbrev sUnlike_init : Stmt := inClass (topS 18) 0
abbrev nUnlike_init : List Str := ["self", "word"]
theorem scUnlike_init : FnScope ["self", "word"] ["self", "word"] (defScope sUnlike_init) := ⟨rfl, rfl, rfl, by decide +kernel, rfl, by decide +kernel, by decide +kernel⟩
abbrev sNotPlain_init : Stmt := inClass (topS 19) 0
abbrev nNotPlain_init : List Str := ["self", "kind"]
theorem scNotPlain_init : FnScope ["self", "kind"] ["self", "kind"] (defScope sNotPlain_init) := ⟨rfl, rfl, rfl, by decide +kernel, rfl, by decide +kernel, by decide +kernel⟩
abbrev sNoLine_init : Stmt := inClass (topS 20) 0
abbrev nNoLine_init : List Str := ["self"]
theorem scNoLine_init : FnScope ["self"] ["self"] (defScope sNoLine_init) := ⟨rfl, rfl, rfl, by decide +kernel, rfl, by decide +kernel, by decide +kernel⟩
abbrev sLcell : Stmt := topS 22
abbrev nLcell : List Str := ["_law_script", "_law_k"]
theorem scLcell : FnScope ["_law_script", "_law_k"] ["_law_script", "_law_k"] (defScope sLcell) := ⟨rfl, rfl, rfl, by decide +kernel, rfl, by decide +kernel, by decide +kernel⟩
abbrev sLstream : Stmt := topS 23
abbrev nLstream : List Str := ["_law_cell_here"]
theorem scLstream : FnScope ["_law_cell_here"] ["_law_cell_here"] (defScope sLstream) := ⟨rfl, rfl, rfl, by decide +kernel, rfl, by decide +kernel, by decide +kernel⟩
abbrev sLtake : Stmt := topS 24
abbrev nLtake : List Str := ["_law_stream_here", "_law_many", "_law_digit", "_law_number"]
theorem scLtake : FnScope ["_law_stream_here", "_law_many", "_law_digit", "_law_number"] ["_law_stream_here", "_law_many"] (defScope sLtake) := ⟨rfl, rfl, rfl, by decide +kernel, rfl, by decide +kernel, by decide +kernel⟩
abbrev sLthing : Stmt := topS 25
abbrev nLthing : List Str := ["_law_stream_here", "_law_number", "_law_some"]
theorem scLthing : FnScope ["_law_stream_here", "_law_number", "_law_some"] ["_law_stream_here"] (defScope sLthing) := ⟨rfl, rfl, rfl, by decide +kernel, rfl, by decide +kernel, by decide +kernel⟩
abbrev sLfirst : Stmt := topS 26
abbrev nLfirst : List Str := ["_law_k", "_law_one", "_law_other", "_law_some"]
theorem scLfirst : FnScope ["_law_k", "_law_one", "_law_other", "_law_some"] ["_law_k", "_law_one", "_law_other"] (defScope sLfirst) := ⟨rfl, rfl, rfl, by decide +kernel, rfl, by decide +kernel, by decide +kernel⟩
abbrev sLkinds : Stmt := topS 27
abbrev nLkinds : List Str := ["_law_error", "_law_found"]
theorem scLkinds : FnScope ["_law_error", "_law_found"] ["_law_error"] (defScope sLkinds) := ⟨rfl, rfl, rfl, by decide +kernel, rfl, by decide +kernel, by decide +kernel⟩
abbrev sLfields : Stmt := topS 28
abbrev nLfields : List Str := ["_law_error"]
theorem scLfields : FnScope ["_law_error"] ["_law_error"] (defScope sLfields) := ⟨rfl, rfl, rfl, by decide +kernel, rfl, by decide +kernel, by decide +kernel⟩
abbrev sLsame : Stmt := topS 29
abbrev nLsame : List Str := ["_law_found", "_law_due", "_law_one"]
theorem scLsame : FnScope ["_law_found", "_law_due", "_law_one"] ["_law_found", "_law_due"] (defScope sLsame) := ⟨rfl, rfl, rfl, by decide +kernel, rfl, by decide +kernel, by decide +kernel⟩
abbrev sLright : Stmt := topS 30
abbrev nLright : List Str := ["_law_stream_here", "_law_k", "_law_things", "_law_many", "_law_error", "_law_beside", "_law_thing_here", "_law_j"]
theorem scLright : FnScope ["_law_stream_here", "_law_k", "_law_things", "_law_many", "_law_error", "_law_beside", "_law_thing_here", "_law_j"] ["_law_stream_here", "_law_k"] (defScope sLright) := ⟨rfl, rfl, rfl, by decide +kernel, rfl, by decide +kernel, by decide +kernel⟩
abbrev slaw : Stmt := topS 31
abbrev nlaw : List Str := ["_law_script", "_law_k", "_law_stream_here", "_law_kind", "_law_plain"]
theorem sclaw : FnScope ["_law_script", "_law_k", "_law_stream_here", "_law_kind", "_law_plain"] ["_law_script"] (defScope slaw) := ⟨rfl, rfl, rfl, by decide +kernel, rfl, by decide +kernel, by decide +kernel⟩
structure Tt (K : PySem.W.Frag) (mg : Str → Option Value) (cc : Nat → Addr) : Prop where
  r_RowsError : Rc K mg "RowsError" (cc 0)
  rv_RowsError : Rv K mg "RowsError" (cc 0) BMV "ValueError.__new__"
  e_RowsError : ExcC K (cc 0)
  qa : QA K [(1, cc 1), (2, cc 2), (3, cc 3), (4, cc 4), (5, cc 5), (6, cc 6), (7, cc 7), (8, cc 8), (9, cc 9), (10, cc 10), (11, cc 11), (12, cc 12), (13, cc 13), (14, cc 14), (15, cc 15), (16, cc 16), (17, cc 17), (18, cc 18), (19, cc 19)]
  qr : QR K (cc 0) [(1, cc 1), (2, cc 2), (3, cc 3), (4, cc 4), (5, cc 5), (6, cc 6), (7, cc 7), (8, cc 8), (9, cc 9), (10, cc 10), (11, cc 11), (12, cc 12), (13, cc 13), (14, cc 14), (15, cc 15), (16, cc 16), (17, cc 17), (18, cc 18), (19, cc 19)]
  k_NoText : Xk K mg "NoText" "NoText.__init__" (cc 1) sNoText_init ["place"]
  e_NoText : ExcC K (cc 1)
  f_NoText : XfC K (cc 1)
  m_NoText : PySem.W.exmOne K (.ref (cc 1)) (.ref (cc 0)) = some true
  k_Twice : Xk K mg "Twice" "Twice.__init__" (cc 2) sTwice_init ["name"]
  e_Twice : ExcC K (cc 2)
  f_Twice : XfC K (cc 2)
  m_Twice : PySem.W.exmOne K (.ref (cc 2)) (.ref (cc 0)) = some true
  k_NoName : Xk K mg "NoName" "NoName.__init__" (cc 3) sNoName_init ["name"]
  e_NoName : ExcC K (cc 3)
  f_NoName : XfC K (cc 3)
  m_NoName : PySem.W.exmOne K (.ref (cc 3)) (.ref (cc 0)) = some true
  k_NoFit : Xk K mg "NoFit" "NoFit.__init__" (cc 4) sNoFit_init ["name"]
  e_NoFit : ExcC K (cc 4)
  f_NoFit : XfC K (cc 4)
  m_NoFit : PySem.W.exmOne K (.ref (cc 4)) (.ref (cc 0)) = some true
  k_BadLine : Xk K mg "BadLine" "BadLine.__init__" (cc 5) sBadLine_init ["line"]
  e_BadLine : ExcC K (cc 5)
  f_BadLine : XfC K (cc 5)
  m_BadLine : PySem.W.exmOne K (.ref (cc 5)) (.ref (cc 0)) = some true
  k_NoKind : Xk K mg "NoKind" "NoKind.__init__" (cc 6) sNoKind_init ["name"]
  e_NoKind : ExcC K (cc 6)
  f_NoKind : XfC K (cc 6)
  m_NoKind : PySem.W.exmOne K (.ref (cc 6)) (.ref (cc 0)) = some true
  k_NoRow : Xk K mg "NoRow" "NoRow.__init__" (cc 7) sNoRow_init ["row"]
  e_NoRow : ExcC K (cc 7)
  f_NoRow : XfC K (cc 7)
  m_NoRow : PySem.W.exmOne K (.ref (cc 7)) (.ref (cc 0)) = some true
  k_NoState : Xk K mg "NoState" "NoState.__init__" (cc 8) sNoState_init ["thing"]
  e_NoState : ExcC K (cc 8)
  f_NoState : XfC K (cc 8)
  m_NoState : PySem.W.exmOne K (.ref (cc 8)) (.ref (cc 0)) = some true
  k_BadStep : Xk K mg "BadStep" "BadStep.__init__" (cc 9) sBadStep_init ["thing"]
  e_BadStep : ExcC K (cc 9)
  f_BadStep : XfC K (cc 9)
  m_BadStep : PySem.W.exmOne K (.ref (cc 9)) (.ref (cc 0)) = some true
  k_NoPlaces : Xk K mg "NoPlaces" "NoPlaces.__init__" (cc 10) sNoPlaces_init ["many"]
  e_NoPlaces : ExcC K (cc 10)
  f_NoPlaces : XfC K (cc 10)
  m_NoPlaces : PySem.W.exmOne K (.ref (cc 10)) (.ref (cc 0)) = some true
  k_NoSize : Xk K mg "NoSize" "NoSize.__init__" (cc 11) sNoSize_init ["thing"]
  e_NoSize : ExcC K (cc 11)
  f_NoSize : XfC K (cc 11)
  m_NoSize : PySem.W.exmOne K (.ref (cc 11)) (.ref (cc 0)) = some true
  k_NoRoom : Xk K mg "NoRoom" "NoRoom.__init__" (cc 12) sNoRoom_init ["kind", "lacking"]
  e_NoRoom : ExcC K (cc 12)
  f_NoRoom : XfC K (cc 12)
  m_NoRoom : PySem.W.exmOne K (.ref (cc 12)) (.ref (cc 0)) = some true
  k_Crowded : Xk K mg "Crowded" "Crowded.__init__" (cc 13) sCrowded_init ["kind", "needed"]
  e_Crowded : ExcC K (cc 13)
  f_Crowded : XfC K (cc 13)
  m_Crowded : PySem.W.exmOne K (.ref (cc 13)) (.ref (cc 0)) = some true
  k_NoBudget : Xk K mg "NoBudget" "NoBudget.__init__" (cc 14) sNoBudget_init ["thing"]
  e_NoBudget : ExcC K (cc 14)
  f_NoBudget : XfC K (cc 14)
  m_NoBudget : PySem.W.exmOne K (.ref (cc 14)) (.ref (cc 0)) = some true
  k_Within : Xk K mg "Within" "Within.__init__" (cc 15) sWithin_init []
  e_Within : ExcC K (cc 15)
  f_Within : XfC K (cc 15)
  m_Within : PySem.W.exmOne K (.ref (cc 15)) (.ref (cc 0)) = some true
  k_NoChange : Xk K mg "NoChange" "NoChange.__init__" (cc 16) sNoChange_init ["kind"]
  e_NoChange : ExcC K (cc 16)
  f_NoChange : XfC K (cc 16)
  m_NoChange : PySem.W.exmOne K (.ref (cc 16)) (.ref (cc 0)) = some true
  k_Unlike : Xk K mg "Unlike" "Unlike.__init__" (cc 17) sUnlike_init ["word"]
  e_Unlike : ExcC K (cc 17)
  f_Unlike : XfC K (cc 17)
  m_Unlike : PySem.W.exmOne K (.ref (cc 17)) (.ref (cc 0)) = some true
  k_NotPlain : Xk K mg "NotPlain" "NotPlain.__init__" (cc 18) sNotPlain_init ["kind"]
  e_NotPlain : ExcC K (cc 18)
  f_NotPlain : XfC K (cc 18)
  m_NotPlain : PySem.W.exmOne K (.ref (cc 18)) (.ref (cc 0)) = some true
  k_NoLine : Xk K mg "NoLine" "NoLine.__init__" (cc 19) sNoLine_init []
  e_NoLine : ExcC K (cc 19)
  f_NoLine : XfC K (cc 19)
  m_NoLine : PySem.W.exmOne K (.ref (cc 19)) (.ref (cc 0)) = some true
  xLcell : Tx K mg "_law_cell" sLcell ["_law_script", "_law_k"]
  xLstream : Tx K mg "_law_stream" sLstream ["_law_cell_here"]
  xLtake : Tx K mg "_law_take" sLtake ["_law_stream_here", "_law_many"]
  xLthing : Tx K mg "_law_thing" sLthing ["_law_stream_here"]
  xLfirst : Tx K mg "_law_first" sLfirst ["_law_k", "_law_one", "_law_other"]
  xLkinds : Tx K mg "_law_kinds" sLkinds ["_law_error"]
  xLfields : Tx K mg "_law_fields" sLfields ["_law_error"]
  xLsame : Tx K mg "_law_same" sLsame ["_law_found", "_law_due"]
  xLright : Tx K mg "_law_right" sLright ["_law_stream_here", "_law_k"]
  xlaw : Tx K mg "law" slaw ["_law_script"]
  b_ValueError : mg "ValueError" = none
  b_bool : mg "bool" = none
  b_int : mg "int" = none
  b_isinstance : mg "isinstance" = none
  b_len : mg "len" = none
  b_list : mg "list" = none
  b_max : mg "max" = none
  b_min : mg "min" = none
  b_range : mg "range" = none
  n_BadLine_line : NoAttr K (cc 5) "line"
  n_BadStep_thing : NoAttr K (cc 9) "thing"
  n_Crowded_kind : NoAttr K (cc 13) "kind"
  n_Crowded_needed : NoAttr K (cc 13) "needed"
  n_NoBudget_thing : NoAttr K (cc 14) "thing"
  n_NoChange_kind : NoAttr K (cc 16) "kind"
  n_NoFit_name : NoAttr K (cc 4) "name"
  n_NoKind_name : NoAttr K (cc 6) "name"
  n_NoName_name : NoAttr K (cc 3) "name"
  n_NoPlaces_many : NoAttr K (cc 10) "many"
  n_NoRoom_kind : NoAttr K (cc 12) "kind"
  n_NoRoom_lacking : NoAttr K (cc 12) "lacking"
  n_NoRow_row : NoAttr K (cc 7) "row"
  n_NoSize_thing : NoAttr K (cc 11) "thing"
  n_NoState_thing : NoAttr K (cc 8) "thing"
  n_NoText_place : NoAttr K (cc 1) "place"
  n_NotPlain_kind : NoAttr K (cc 18) "kind"
  n_Twice_name : NoAttr K (cc 2) "name"
  n_Unlike_word : NoAttr K (cc 17) "word"
variable {P : Program} {w : World} {K : PySem.W.Frag} {mg : Str → Option Value} {base : Heap} {cc : Nat → Addr}
theorem INoText (T : Tt K mg cc) : Xi P w K mg base "NoText" (cc 1) ["place"] := T.k_NoText.ok scNoText_init (fun f cdv A outer s H E => ⟨_, pss_cons (ps_expr (pe_rinit T.r_RowsError (by rfl) (pa_cons (pv 0) (pa_cons pe_str pa_nil)))) (pss_cons (ps_ost (pv 0) (pv 1)) pss_nil), fun vs H Q E h => read1 T.k_NoText.oex (T.k_NoText.no _ (by simp)) h⟩)
theorem ITwice (T : Tt K mg cc) : Xi P w K mg base "Twice" (cc 2) ["name"] := T.k_Twice.ok scTwice_init (fun f cdv A outer s H E => ⟨_, pss_cons (ps_expr (pe_rinit T.r_RowsError (by rfl) (pa_cons (pv 0) (pa_cons pe_str pa_nil)))) (pss_cons (ps_ost (pv 0) (pv 1)) pss_nil), fun vs H Q E h => read1 T.k_Twice.oex (T.k_Twice.no _ (by simp)) h⟩)
theorem INoName (T : Tt K mg cc) : Xi P w K mg base "NoName" (cc 3) ["name"] := T.k_NoName.ok scNoName_init (fun f cdv A outer s H E => ⟨_, pss_cons (ps_expr (pe_rinit T.r_RowsError (by rfl) (pa_cons (pv 0) (pa_cons pe_str pa_nil)))) (pss_cons (ps_ost (pv 0) (pv 1)) pss_nil), fun vs H Q E h => read1 T.k_NoName.oex (T.k_NoName.no _ (by simp)) h⟩)
theorem INoFit (T : Tt K mg cc) : Xi P w K mg base "NoFit" (cc 4) ["name"] := T.k_NoFit.ok scNoFit_init (fun f cdv A outer s H E => ⟨_, pss_cons (ps_expr (pe_rinit T.r_RowsError (by rfl) (pa_cons (pv 0) (pa_cons pe_str pa_nil)))) (pss_cons (ps_ost (pv 0) (pv 1)) pss_nil), fun vs H Q E h => read1 T.k_NoFit.oex (T.k_NoFit.no _ (by simp)) h⟩)
theorem IBadLine (T : Tt K mg cc) : Xi P w K mg base "BadLine" (cc 5) ["line"] := T.k_BadLine.ok scBadLine_init (fun f cdv A outer s H E => ⟨_, pss_cons (ps_expr (pe_rinit T.r_RowsError (by rfl) (pa_cons (pv 0) (pa_cons pe_str pa_nil)))) (pss_cons (ps_ost (pv 0) (pv 1)) pss_nil), fun vs H Q E h => read1 T.k_BadLine.oex (T.k_BadLine.no _ (by simp)) h⟩)
theorem INoKind (T : Tt K mg cc) : Xi P w K mg base "NoKind" (cc 6) ["name"] := T.k_NoKind.ok scNoKind_init (fun f cdv A outer s H E => ⟨_, pss_cons (ps_expr (pe_rinit T.r_RowsError (by rfl) (pa_cons (pv 0) (pa_cons pe_str pa_nil)))) (pss_cons (ps_ost (pv 0) (pv 1)) pss_nil), fun vs H Q E h => read1 T.k_NoKind.oex (T.k_NoKind.no _ (by simp)) h⟩)
theorem INoRow (T : Tt K mg cc) : Xi P w K mg base "NoRow" (cc 7) ["row"] := T.k_NoRow.ok scNoRow_init (fun f cdv A outer s H E => ⟨_, pss_cons (ps_expr (pe_rinit T.r_RowsError (by rfl) (pa_cons (pv 0) (pa_cons pe_str pa_nil)))) (pss_cons (ps_ost (pv 0) (pv 1)) pss_nil), fun vs H Q E h => read1 T.k_NoRow.oex (T.k_NoRow.no _ (by simp)) h⟩)
theorem INoState (T : Tt K mg cc) : Xi P w K mg base "NoState" (cc 8) ["thing"] := T.k_NoState.ok scNoState_init (fun f cdv A outer s H E => ⟨_, pss_cons (ps_expr (pe_rinit T.r_RowsError (by rfl) (pa_cons (pv 0) (pa_cons pe_str pa_nil)))) (pss_cons (ps_ost (pv 0) (pv 1)) pss_nil), fun vs H Q E h => read1 T.k_NoState.oex (T.k_NoState.no _ (by simp)) h⟩)
theorem IBadStep (T : Tt K mg cc) : Xi P w K mg base "BadStep" (cc 9) ["thing"] := T.k_BadStep.ok scBadStep_init (fun f cdv A outer s H E => ⟨_, pss_cons (ps_expr (pe_rinit T.r_RowsError (by rfl) (pa_cons (pv 0) (pa_cons pe_str pa_nil)))) (pss_cons (ps_ost (pv 0) (pv 1)) pss_nil), fun vs H Q E h => read1 T.k_BadStep.oex (T.k_BadStep.no _ (by simp)) h⟩)
theorem INoPlaces (T : Tt K mg cc) : Xi P w K mg base "NoPlaces" (cc 10) ["many"] := T.k_NoPlaces.ok scNoPlaces_init (fun f cdv A outer s H E => ⟨_, pss_cons (ps_expr (pe_rinit T.r_RowsError (by rfl) (pa_cons (pv 0) (pa_cons pe_str pa_nil)))) (pss_cons (ps_ost (pv 0) (pv 1)) pss_nil), fun vs H Q E h => read1 T.k_NoPlaces.oex (T.k_NoPlaces.no _ (by simp)) h⟩)
theorem INoSize (T : Tt K mg cc) : Xi P w K mg base "NoSize" (cc 11) ["thing"] := T.k_NoSize.ok scNoSize_init (fun f cdv A outer s H E => ⟨_, pss_cons (ps_expr (pe_rinit T.r_RowsError (by rfl) (pa_cons (pv 0) (pa_cons pe_str pa_nil)))) (pss_cons (ps_ost (pv 0) (pv 1)) pss_nil), fun vs H Q E h => read1 T.k_NoSize.oex (T.k_NoSize.no _ (by simp)) h⟩)
theorem INoRoom (T : Tt K mg cc) : Xi P w K mg base "NoRoom" (cc 12) ["kind", "lacking"] := T.k_NoRoom.ok scNoRoom_init (fun f cdv A outer s H E => ⟨_, pss_cons (ps_expr (pe_rinit T.r_RowsError (by rfl) (pa_cons (pv 0) (pa_cons pe_str pa_nil)))) (pss_cons (ps_ost (pv 0) (pv 1)) (pss_cons (ps_ost (pv 0) (pv 2)) pss_nil)), fun vs H Q E h => read2 T.k_NoRoom.oex (T.k_NoRoom.no _ (by simp)) (T.k_NoRoom.no _ (by simp)) h⟩)
theorem ICrowded (T : Tt K mg cc) : Xi P w K mg base "Crowded" (cc 13) ["kind", "needed"] := T.k_Crowded.ok scCrowded_init (fun f cdv A outer s H E => ⟨_, pss_cons (ps_expr (pe_rinit T.r_RowsError (by rfl) (pa_cons (pv 0) (pa_cons pe_str pa_nil)))) (pss_cons (ps_ost (pv 0) (pv 1)) (pss_cons (ps_ost (pv 0) (pv 2)) pss_nil)), fun vs H Q E h => read2 T.k_Crowded.oex (T.k_Crowded.no _ (by simp)) (T.k_Crowded.no _ (by simp)) h⟩)
theorem INoBudget (T : Tt K mg cc) : Xi P w K mg base "NoBudget" (cc 14) ["thing"] := T.k_NoBudget.ok scNoBudget_init (fun f cdv A outer s H E => ⟨_, pss_cons (ps_expr (pe_rinit T.r_RowsError (by rfl) (pa_cons (pv 0) (pa_cons pe_str pa_nil)))) (pss_cons (ps_ost (pv 0) (pv 1)) pss_nil), fun vs H Q E h => read1 T.k_NoBudget.oex (T.k_NoBudget.no _ (by simp)) h⟩)
theorem IWithin (T : Tt K mg cc) : Xi0 P w K mg base "Within" (cc 15) := T.k_Within.ok0 scWithin_init (fun f cdv A outer s H E => ⟨_, pss_cons (ps_expr (pe_rinit T.r_RowsError (by rfl) (pa_cons (pv 0) (pa_cons pe_str pa_nil)))) pss_nil, fun vs H Q E h => read0 T.k_Within.oex h⟩)
theorem INoChange (T : Tt K mg cc) : Xi P w K mg base "NoChange" (cc 16) ["kind"] := T.k_NoChange.ok scNoChange_init (fun f cdv A outer s H E => ⟨_, pss_cons (ps_expr (pe_rinit T.r_RowsError (by rfl) (pa_cons (pv 0) (pa_cons pe_str pa_nil)))) (pss_cons (ps_ost (pv 0) (pv 1)) pss_nil), fun vs H Q E h => read1 T.k_NoChange.oex (T.k_NoChange.no _ (by simp)) h⟩)
theorem IUnlike (T : Tt K mg cc) : Xi P w K mg base "Unlike" (cc 17) ["word"] := T.k_Unlike.ok scUnlike_init (fun f cdv A outer s H E => ⟨_, pss_cons (ps_expr (pe_rinit T.r_RowsError (by rfl) (pa_cons (pv 0) (pa_cons pe_str pa_nil)))) (pss_cons (ps_ost (pv 0) (pv 1)) pss_nil), fun vs H Q E h => read1 T.k_Unlike.oex (T.k_Unlike.no _ (by simp)) h⟩)
theorem INotPlain (T : Tt K mg cc) : Xi P w K mg base "NotPlain" (cc 18) ["kind"] := T.k_NotPlain.ok scNotPlain_init (fun f cdv A outer s H E => ⟨_, pss_cons (ps_expr (pe_rinit T.r_RowsError (by rfl) (pa_cons (pv 0) (pa_cons pe_str pa_nil)))) (pss_cons (ps_ost (pv 0) (pv 1)) pss_nil), fun vs H Q E h => read1 T.k_NotPlain.oex (T.k_NotPlain.no _ (by simp)) h⟩)
theorem INoLine (T : Tt K mg cc) : Xi0 P w K mg base "NoLine" (cc 19) := T.k_NoLine.ok0 scNoLine_init (fun f cdv A outer s H E => ⟨_, pss_cons (ps_expr (pe_rinit T.r_RowsError (by rfl) (pa_cons (pv 0) (pa_cons pe_str pa_nil)))) pss_nil, fun vs H Q E h => read0 T.k_NoLine.oex h⟩)
def bsL : List Y.Fb := [rcB "RowsError",
  rvB "RowsError" BMV,
  ecB "RowsError",
  qaB [(1, "NoText"), (2, "Twice"), (3, "NoName"), (4, "NoFit"), (5, "BadLine"), (6, "NoKind"), (7, "NoRow"), (8, "NoState"), (9, "BadStep"), (10, "NoPlaces"), (11, "NoSize"), (12, "NoRoom"), (13, "Crowded"), (14, "NoBudget"), (15, "Within"), (16, "NoChange"), (17, "Unlike"), (18, "NotPlain"), (19, "NoLine")],
  qrB "RowsError" [(1, "NoText"), (2, "Twice"), (3, "NoName"), (4, "NoFit"), (5, "BadLine"), (6, "NoKind"), (7, "NoRow"), (8, "NoState"), (9, "BadStep"), (10, "NoPlaces"), (11, "NoSize"), (12, "NoRoom"), (13, "Crowded"), (14, "NoBudget"), (15, "Within"), (16, "NoChange"), (17, "Unlike"), (18, "NotPlain"), (19, "NoLine")],
  noB "NoText" "place",
  xkB "NoText",
  ecB "NoText",
  exB "NoText" "RowsError",
  noB "Twice" "name",
  xkB "Twice",
  ecB "Twice",
  exB "Twice" "RowsError",
  noB "NoName" "name",
  xkB "NoName",
  ecB "NoName",
  exB "NoName" "RowsError",
  noB "NoFit" "name",
  xkB "NoFit",
  ecB "NoFit",
  exB "NoFit" "RowsError",
  noB "BadLine" "line",
  xkB "BadLine",
  ecB "BadLine",
  exB "BadLine" "RowsError",
  noB "NoKind" "name",
  xkB "NoKind",
  ecB "NoKind",
  exB "NoKind" "RowsError",
  noB "NoRow" "row",
  xkB "NoRow",
  ecB "NoRow",
  exB "NoRow" "RowsError",
  noB "NoState" "thing",
  xkB "NoState",
  ecB "NoState",
  exB "NoState" "RowsError",
  noB "BadStep" "thing",
  xkB "BadStep",
  ecB "BadStep",
  exB "BadStep" "RowsError",
  noB "NoPlaces" "many",
  xkB "NoPlaces",
  ecB "NoPlaces",
  exB "NoPlaces" "RowsError",
  noB "NoSize" "thing",
  xkB "NoSize",
  ecB "NoSize",
  exB "NoSize" "RowsError",
  noB "NoRoom" "kind",
  noB "NoRoom" "lacking",
  xkB "NoRoom",
  ecB "NoRoom",
  exB "NoRoom" "RowsError",
  noB "Crowded" "kind",
  noB "Crowded" "needed",
  xkB "Crowded",
  ecB "Crowded",
  exB "Crowded" "RowsError",
  noB "NoBudget" "thing",
  xkB "NoBudget",
  ecB "NoBudget",
  exB "NoBudget" "RowsError",
  xkB "Within",
  ecB "Within",
  exB "Within" "RowsError",
  noB "NoChange" "kind",
  xkB "NoChange",
  ecB "NoChange",
  exB "NoChange" "RowsError",
  noB "Unlike" "word",
  xkB "Unlike",
  ecB "Unlike",
  exB "Unlike" "RowsError",
  noB "NotPlain" "kind",
  xkB "NotPlain",
  ecB "NotPlain",
  exB "NotPlain" "RowsError",
  xkB "NoLine",
  ecB "NoLine",
  exB "NoLine" "RowsError",
  glB "_law_cell",
  glB "_law_stream",
  glB "_law_take",
  glB "_law_thing",
  glB "_law_first",
  glB "_law_kinds",
  glB "_law_fields",
  glB "_law_same",
  glB "_law_right",
  glB "law",
  frB "ValueError",
  frB "bool",
  frB "int",
  frB "isinstance",
  frB "len",
  frB "list",
  frB "max",
  frB "min",
  frB "range"]
def fnL : List He.FnD := [fnD ("NoText", some "__init__") "__init__" "NoText.__init__" sNoText_init,
  fnD ("Twice", some "__init__") "__init__" "Twice.__init__" sTwice_init,
  fnD ("NoName", some "__init__") "__init__" "NoName.__init__" sNoName_init,
  fnD ("NoFit", some "__init__") "__init__" "NoFit.__init__" sNoFit_init,
  fnD ("BadLine", some "__init__") "__init__" "BadLine.__init__" sBadLine_init,
  fnD ("NoKind", some "__init__") "__init__" "NoKind.__init__" sNoKind_init,
  fnD ("NoRow", some "__init__") "__init__" "NoRow.__init__" sNoRow_init,
  fnD ("NoState", some "__init__") "__init__" "NoState.__init__" sNoState_init,
  fnD ("BadStep", some "__init__") "__init__" "BadStep.__init__" sBadStep_init,
  fnD ("NoPlaces", some "__init__") "__init__" "NoPlaces.__init__" sNoPlaces_init,
  fnD ("NoSize", some "__init__") "__init__" "NoSize.__init__" sNoSize_init,
  fnD ("NoRoom", some "__init__") "__init__" "NoRoom.__init__" sNoRoom_init,
  fnD ("Crowded", some "__init__") "__init__" "Crowded.__init__" sCrowded_init,
  fnD ("NoBudget", some "__init__") "__init__" "NoBudget.__init__" sNoBudget_init,
  fnD ("Within", some "__init__") "__init__" "Within.__init__" sWithin_init,
  fnD ("NoChange", some "__init__") "__init__" "NoChange.__init__" sNoChange_init,
  fnD ("Unlike", some "__init__") "__init__" "Unlike.__init__" sUnlike_init,
  fnD ("NotPlain", some "__init__") "__init__" "NotPlain.__init__" sNotPlain_init,
  fnD ("NoLine", some "__init__") "__init__" "NoLine.__init__" sNoLine_init,
  fnD ("_law_cell", none) "_law_cell" "_law_cell" sLcell,
  fnD ("_law_stream", none) "_law_stream" "_law_stream" sLstream,
  fnD ("_law_take", none) "_law_take" "_law_take" sLtake,
  fnD ("_law_thing", none) "_law_thing" "_law_thing" sLthing,
  fnD ("_law_first", none) "_law_first" "_law_first" sLfirst,
  fnD ("_law_kinds", none) "_law_kinds" "_law_kinds" sLkinds,
  fnD ("_law_fields", none) "_law_fields" "_law_fields" sLfields,
  fnD ("_law_same", none) "_law_same" "_law_same" sLsame,
  fnD ("_law_right", none) "_law_right" "_law_right" sLright,
  fnD ("law", none) "law" "law" slaw]
def tsL : List He.Tab := []
def nm0 : List PySem.Str := ["RowsError", "NoText", "Twice", "NoName", "NoFit", "BadLine", "NoKind", "NoRow", "NoState", "BadStep", "NoPlaces", "NoSize", "NoRoom", "Crowded", "NoBudget", "Within", "NoChange", "Unlike", "NotPlain", "NoLine", "_law_cell", "_law_stream", "_law_take", "_law_thing", "_law_first", "_law_kinds", "_law_fields", "_law_same", "_law_right"]
def nmT : List PySem.Str := nm0
def ccK (K : PySem.W.Frag) : Nat → Addr := fun i => [He.ga K "RowsError", He.ga K "NoText", He.ga K "Twice", He.ga K "NoName", He.ga K "NoFit", He.ga K "BadLine", He.ga K "NoKind", He.ga K "NoRow", He.ga K "NoState", He.ga K "BadStep", He.ga K "NoPlaces", He.ga K "NoSize", He.ga K "NoRoom", He.ga K "Crowded", He.ga K "NoBudget", He.ga K "Within", He.ga K "NoChange", He.ga K "Unlike", He.ga K "NotPlain", He.ga K "NoLine"].getD i 0
abbrev RwT : PySem.W.OpenRow := PySem.W.OpenLaw.row PySem.Challenge.rw_rowsbeneath_k04_refusals_apart
abbrev hkT : PySem.W.Hook := Y.hookY 4 bsL fnL tsL
def obT (s : PySem.W.SharedT) : Y.AlY := Y.obsYG 4 bsL fnL tsL (HandSHeadRun.getT s)
theorem obT_eq (s : PySem.W.SharedT) : obT s = hkT.obs s.abs := Y.obsYG_eq (HandSHeadRun.getT_eq s)
theorem runFT (w : World) : HandSHeadRun.RunEq RwT (PySem.W.view RwT.prog [31]) hkT obT 40000 nmT (w.withFollow "special-get-raises" false) := by
  intro os
  kernel_rfl
theorem runTT (w : World) : HandSHeadRun.RunEq RwT (PySem.W.view RwT.prog [31]) hkT obT 40000 nmT (w.withFollow "special-get-raises" true) := by
  intro os
  kernel_rfl
theorem runA (w : World) : HandSHeadRun.RunEq RwT (PySem.W.view RwT.prog [31]) hkT obT 40000 nmT w := Y.run_by (P := fun w => HandSHeadRun.RunEq RwT (PySem.W.view RwT.prog [31]) hkT obT 40000 nmT w) "special-get-raises" runFT runTT w
/-- a stream: three ints -/
def Strm (μ : Mu) (s : Addr) : Prop := ∃ a b c : Int, μ s = some (.lst [.int a, .int b, .int c])
/-- a stream was drawn from, nothing else changed -/
def Tk (s : Addr) (μ μ' : Mu) : Prop := Strm μ' s ∧ ∀ b, b ≠ s → μ' b = μ b
theorem Tk.refl {s : Addr} {μ : Mu} (h : Strm μ s) : Tk s μ μ := ⟨h, fun _ _ => rfl⟩
theorem Tk.trans {s : Addr} {μ μ1 μ2 : Mu} (a : Tk s μ μ1) (b : Tk s μ1 μ2) : Tk s μ μ2 := ⟨b.1, fun x h => (b.2 x h).trans (a.2 x h)⟩
theorem Tk.st {s : Addr} {μ μ' : Mu} (a : Tk s μ μ') : Strm μ' s := a.1
theorem Strm.some {s : Addr} {μ : Mu} (h : Strm μ s) : ∃ m, μ s = some m := by obtain ⟨a, b, c, e⟩ := h; exact ⟨_, e⟩
theorem Tk.keep {s p : Addr} {μ μ' : Mu} {r : Option MO} (a : Tk s μ μ') (h : μ p = r) (hp : p ≠ s) : μ' p = r := (a.2 p hp).trans h
theorem Tk.none {s p : Addr} {μ μ' : Mu} (a : Tk s μ μ') (h : μ p = none) (hs : Strm μ s) : μ' p = none := by
  obtain ⟨_, _, _, e⟩ := hs
  exact (a.2 p (fun z => by rw [z, e] at h; cases h)).trans h
theorem Strm.new {s p : Addr} {μ : Mu} {m : MO} (h : Strm μ s) (hp : μ p = none) : Strm (mup μ p m) s := by
  obtain ⟨a, b, c, e⟩ := h
  exact ⟨a, b, c, by rw [mup_ne (ne_new hp e)]; exact e⟩
theorem Strm.ne {s p : Addr} {μ : Mu} (h : Strm μ s) (hp : μ p = none) : p ≠ s := by
  obtain ⟨a, b, c, e⟩ := h
  exact ne_new' hp e
/-! ### _law_cell -/
def spLcell : Sp2 := fun ds μ Q _ => ∃ ns k, ds = [.scr ns, .int k] ∧ 0 ≤ k ∧ k < 1000000 ∧ ∀ n, Q (.int n) μ
theorem DLcell (T : Tt K mg cc) : Df P w K mg base "_law_cell" 1 ["_law_script", "_law_k"] (spLcell) := by
  refine T.xLcell.ok scLcell (by rintro ds μ Q E ⟨ns, k, rfl, h0, h1, q⟩ <;> rfl) (fun f cdv A outer s H E hr => ⟨_, _, (b_cons (s_if (t_lt (e_pv 1 (pv 1)) (e_len (by rfl) T.b_len (a_cons (e_pv 0 (pv 0)) a_nil)))
      (b_one (s_ret (e_ixScr (e_pv 0 (pv 0)) (e_pv 1 (pv 1)) (fun _ _ => rfl))))
      b_nil)
      (b_one (s_ret (e_add (e_mulA e_int (e_pv 1 (pv 1))) e_int)))), ?_⟩)
  rintro ds μ Q E ⟨ns, k, rfl, h0, h1, q⟩
  walk_at "y"
  refine br_dec (fun h => ?_) (fun h => ?_)
  · walk_at "y"
    obtain ⟨n, e, _⟩ := atI_ex h0 h
    exact w_ixScr e (RtC.same (q _))
  · walk_at "y"
    exact RtC.same (q _)
/-! ### _law_stream -/
def spLstream : Sp2 := fun ds μ Q _ => ∃ c, ds = [.int c] ∧ ∀ p μ', μ p = none → Strm μ' p → (∀ b, b ≠ p → μ' b = μ b) → Q (.adr p) μ'
theorem DLstream (T : Tt K mg cc) : Df P w K mg base "_law_stream" 1 ["_law_cell_here"] (spLstream) := by
  refine T.xLstream.ok scLstream (by rintro ds μ Q E ⟨c, rfl, q⟩ <;> rfl) (fun f cdv A outer s H E hr => ⟨_, _, (b_one (s_ret (e_lst (a_cons (e_mulA (e_pv 0 (pv 0)) (e_int1 (by rfl) T.b_int (a_cons (e_ge (e_pv 0 (pv 0)) (e_pow e_int e_int)) a_nil))) (a_cons (e_mod (e_pv 0 (pv 0)) e_int) (a_cons e_int a_nil)))))), ?_⟩)
  rintro ds μ Q E ⟨c, rfl, q⟩
  walk_at "y"
  intro p hp
  walk_at "y"
  exact RtC.same (q _ _ hp ⟨_, _, _, mup_same⟩ (fun b hb => mup_ne hb))
/-! ### _law_take -/
def spLtake : Sp2 := fun ds μ Q _ => ∃ s n, ds = [.adr s, .int n] ∧ Strm μ s ∧ 0 < n ∧ n < 1606938044258990275541962092341162602522202993782792835301376 ∧ ∀ r μ', 0 ≤ r → r < n → Tk s μ μ' → Q (.int r) μ'
theorem DLtake (T : Tt K mg cc) : Df P w K mg base "_law_take" 1 ["_law_stream_here", "_law_many"] (spLtake) := by
  refine T.xLtake.ok scLtake (by rintro ds μ Q E ⟨s, n, rfl, ⟨a, b, c, hs⟩, h0, h1, q⟩ <;> rfl) (fun f cdv A outer s H E hr => ⟨_, _, (b_cons (s_if (t_gt (e_ix (e_pv 0 (pv 0)) e_int (fun _ _ => rfl)) e_int)
      (b_cons (s_set (i := 2) (e_mod (e_ix (e_pv 0 (pv 0)) e_int (fun _ _ => rfl)) (e_pv 1 (pv 1))) scLtake.nd rfl (by first | exact Or.inl rfl | exact Or.inr rfl))
      (b_cons (s_setIx (e_fdiv (e_ix (e_pv 0 (pv 0)) e_int (fun _ _ => rfl)) (e_pv 1 (pv 1))) (e_pv 0 (pv 0)) e_int)
      (b_one (s_ret (e_pv 2 (pv 2))))))
      b_nil)
      (b_cons (s_setIx (e_add (e_ix (e_pv 0 (pv 0)) e_int (fun _ _ => rfl)) e_int) (e_pv 0 (pv 0)) e_int)
      (b_cons (s_set (i := 3) (e_mod (e_add (e_mulA (e_add (e_ix (e_pv 0 (pv 0)) e_int (fun _ _ => rfl)) (e_mulA e_int (e_ix (e_pv 0 (pv 0)) e_int (fun _ _ => rfl)))) e_int) e_int) e_int) scLtake.nd rfl (by first | exact Or.inl rfl | exact Or.inr rfl))
      (b_cons (s_set (i := 3) (e_mod (e_mulA (e_pv 3 (pv 3)) (e_pv 3 (pv 3))) e_int) scLtake.nd rfl (by first | exact Or.inl rfl | exact Or.inr rfl))
      (b_one (s_ret (e_mod (e_fdiv (e_mod (e_add (e_mulA (e_pv 3 (pv 3)) (e_pv 3 (pv 3))) (e_mulA e_int (e_ix (e_pv 0 (pv 0)) e_int (fun _ _ => rfl)))) e_int) e_int) (e_pv 1 (pv 1))))))))), ?_⟩)
  rintro ds μ Q E ⟨s, n, rfl, ⟨a, b, c, hs⟩, h0, h1, q⟩
  walk_at "y"
  refine br_dec (fun h => ?_) (fun h => ?_)
  · walk_at "y"
    exact RtC.same (q _ _ (Int.emod_nonneg _ (by omega)) (Int.emod_lt_of_pos _ h0) ⟨⟨_, _, _, mup_same⟩, fun b hb => mup_ne hb⟩)
  · walk_at "y"
    exact RtC.same (q _ _ (Int.emod_nonneg _ (by omega)) (Int.emod_lt_of_pos _ h0) ⟨⟨_, _, _, mup_same⟩, fun b hb => mup_ne hb⟩)

/-- things that may be told of a refusal; their lists hold at most n items -/
def Th (n : Nat) (μ : Mu) (d : D) : Prop := (d.flat = true ∧ ∀ n, d ≠ .ty n) ∨ (∃ i, d = .tup [.int i]) ∨ ∃ a, d = .adr a ∧ (μ a = some (.dk []) ∨ ∃ xs, μ a = some (.lst xs) ∧ xs.length ≤ n)
def TkW (s : Addr) (μ μ' : Mu) : Prop := Strm μ' s ∧ ∀ b m, b ≠ s → μ b = some m → μ' b = some m
theorem TkW.refl {s : Addr} {μ : Mu} (h : Strm μ s) : TkW s μ μ := ⟨h, fun _ _ _ e => e⟩
theorem TkW.trans {s : Addr} {μ μ1 μ2 : Mu} (a : TkW s μ μ1) (b : TkW s μ1 μ2) : TkW s μ μ2 := ⟨b.1, fun x m h e => b.2 x m h (a.2 x m h e)⟩
theorem Tk.toW {s : Addr} {μ μ' : Mu} (t : Tk s μ μ') : TkW s μ μ' := ⟨t.1, fun b m h e => (t.2 b h).trans e⟩
theorem TkW.new {s p : Addr} {μ μ' : Mu} {m : MO} (t : TkW s μ μ') (hp : μ' p = none) : TkW s μ (mup μ' p m) := ⟨t.1.new hp, fun b u h e => by
  have e' := t.2 b u h e
  rw [mup_ne (fun z => by rw [z, hp] at e'; cases e')]; exact e'⟩
theorem Th.up {n n' : Nat} {μ μ' : Mu} {d : D} (h : Th n μ d) (k : ∀ a m, d = .adr a → μ a = some m → (m = .dk [] ∨ ∃ xs, m = .lst xs ∧ xs.length ≤ n) → μ' a = some m ∨ ∃ xs, μ' a = some (.lst xs) ∧ xs.length ≤ n') (hn : n ≤ n') : Th n' μ' d := by
  rcases h with h | h | ⟨a, e, h | ⟨xs, h, l⟩⟩
  · exact .inl h
  · exact .inr (.inl h)
  · exact .inr (.inr ⟨a, e, (k a _ e h (.inl rfl)).imp id id⟩)
  · refine .inr (.inr ⟨a, e, .inr ?_⟩)
    rcases k a _ e h (.inr ⟨xs, rfl, l⟩) with z | z
    · exact ⟨xs, z, by omega⟩
    · exact z
theorem Th.sub {n : Nat} {μ μ' : Mu} {d : D} (h : Th n μ d) (s : Sub μ μ') : Th n μ' d := h.up (fun a m _ e _ => .inl (s _ _ e)) (Nat.le_refl n)
theorem Th.tkw {μ μ' : Mu} {s : Addr} {d : D} (h : Th 2 μ d) (hS : Strm μ s) (w : TkW s μ μ') : Th 2 μ' d := h.up (fun a m _ e h2 => .inl (w.2 a m (fun z => by
  obtain ⟨x1, x2, x3, e2⟩ := hS
  rw [z, e2] at e
  rcases h2 with rfl | ⟨xs, rfl, l⟩
  · cases e
  · cases e; simp at l) e)) (Nat.le_refl 2)
theorem Th.app {n : Nat} {μ : Mu} {a : Addr} {xs : List D} {d y : D} (h : Th n μ d) (ha : μ a = some (.lst xs)) (l : xs.length ≤ n) : Th (n + 1) (mup μ a (.lst (xs ++ [y]))) d := h.up (fun b m _ e _ => by
  by_cases z : b = a
  · refine .inr ⟨xs ++ [y], by rw [z]; exact mup_same, by rw [List.length_append, List.length_singleton]; omega⟩
  · exact .inl (by rw [mup_ne z]; exact e)) (Nat.le_succ n)
theorem th_int {n : Nat} {μ : Mu} {i : Int} : Th n μ (.int i) := .inl ⟨rfl, by simp⟩
theorem th_bl {n : Nat} {μ : Mu} {b : Bool} : Th n μ (.bl b) := .inl ⟨rfl, by simp⟩
theorem th_non {n : Nat} {μ : Mu} : Th n μ .non := .inl ⟨rfl, by simp⟩
theorem th_str {n : Nat} {μ : Mu} {x : Str} : Th n μ (.str x) := .inl ⟨rfl, by simp⟩
theorem th_tup {n : Nat} {μ : Mu} {i : Int} : Th n μ (.tup [.int i]) := .inr (.inl ⟨i, rfl⟩)
theorem th_dk {n : Nat} {μ : Mu} {a : Addr} (h : μ a = some (.dk [])) : Th n μ (.adr a) := .inr (.inr ⟨a, rfl, .inl h⟩)
theorem th_lst {n : Nat} {μ : Mu} {a : Addr} {xs : List D} (h : μ a = some (.lst xs)) (l : xs.length ≤ n) : Th n μ (.adr a) := .inr (.inr ⟨a, rfl, .inr ⟨xs, h, l⟩⟩)
theorem Th.isl {n : Nat} {μ : Mu} {d : D} (h : Th n μ d) : (∃ t, tyD μ d = some t ∧ kitB t "list" = some false) ∨ ∃ a xs, d = .adr a ∧ μ a = some (.lst xs) ∧ xs.length ≤ n := by
  rcases h with ⟨h, hn⟩ | ⟨i, rfl⟩ | ⟨a, rfl, h | ⟨xs, h, l⟩⟩
  · cases d with
    | non => exact .inl ⟨_, rfl, rfl⟩
    | bl _ => exact .inl ⟨_, rfl, rfl⟩
    | int _ => exact .inl ⟨_, rfl, rfl⟩
    | str _ => exact .inl ⟨_, rfl, rfl⟩
    | ty n => exact absurd rfl (hn n)
    | adr _ => cases h
    | tup _ => cases h
    | lst _ => cases h
    | obj _ _ _ => cases h
    | scr _ => cases h
    | tun _ => cases h
  · exact .inl ⟨_, rfl, rfl⟩
  · exact .inl ⟨_, tyD_dk h, rfl⟩
  · exact .inr ⟨a, xs, rfl, h, l⟩
/-! ### _law_thing -/
def spLthing : Sp2 := fun ds μ Q _ => ∃ s, ds = [.adr s] ∧ Strm μ s ∧ ∀ d μ', Th 2 μ' d → d ≠ .adr s → TkW s μ μ' → Q d μ'
theorem DLthing (T : Tt K mg cc) : Df P w K mg base "_law_thing" 2 ["_law_stream_here"] (spLthing) := by
  have DLtake := DLtake (P := P) (w := w) (base := base) T
  refine T.xLthing.ok scLthing (by rintro ds μ Q E ⟨s, rfl, hS, q⟩ <;> rfl) (fun f cdv A outer s H E hr => ⟨_, _, (b_cons (s_set (i := 1) (e_add (e_sub (e_call DLtake hr (by rfl) (a_cons (e_pv 0 (pv 0)) (a_cons (e_sub (e_mulA e_int (e_pow e_int e_int)) e_int) a_nil))) (e_pow e_int e_int)) e_int) scLthing.nd rfl (by first | exact Or.inl rfl | exact Or.inr rfl))
      (b_cons (s_set (i := 2) (e_fz (e_lst (a_cons (e_pv 1 (pv 1)) (a_cons (e_pv 1 (pv 1)) (a_cons e_bl (a_cons e_bl (a_cons e_non (a_cons e_str (a_cons e_str (a_cons (e_lst (a_cons (e_pv 1 (pv 1)) a_nil)) (a_cons (e_lst (a_cons (e_lst (a_cons (e_pv 1 (pv 1)) a_nil)) (a_cons e_int a_nil))) (a_cons (e_tup (a_cons (e_pv 1 (pv 1)) a_nil)) (a_cons e_dnew a_nil))))))))))))) scLthing.nd rfl (by first | exact Or.inl rfl | exact Or.inr rfl))
      (b_one (s_ret (e_ix (e_pv 2 (pv 2)) (e_call DLtake hr (by rfl) (a_cons (e_pv 0 (pv 0)) (a_cons e_int a_nil))) (fun _ _ => rfl)))))), ?_⟩)
  rintro ds μ Q E ⟨s, rfl, hS, q⟩
  walk_at "y"
  refine ⟨s, _, rfl, hS, by decide +kernel, by decide +kernel, fun k μ1 k0 k1 t1 => ?_⟩
  walk_at "y"
  intro p hp
  walk_at "y"
  intro p1 hp1
  walk_at "y"
  intro p2 hp2
  walk_at "y"
  rename_i p3 hp3 _ _
  have w3 : TkW s μ _ := (((t1.toW.new hp).new hp1).new hp2).new (m := .dk []) hp3
  have f3 := mup_same (μ := mup (mup (mup μ1 p (MO.lst [D.int (k - 10 ^ Int.toNat 30 + 1)])) p1 (MO.lst [D.int (k - 10 ^ Int.toNat 30 + 1)])) p2 (MO.lst [D.adr p1, D.int 1])) (a := p3) (m := MO.dk [])
  have f2 := (Sub.new (m := MO.dk []) hp3) p2 _ mup_same
  have f1 := (Sub.new (m := MO.dk []) hp3) p _ ((Sub.new (m := MO.lst [D.adr p1, D.int 1]) hp2) p _ ((Sub.new (m := MO.lst [D.int (k - 10 ^ Int.toNat 30 + 1)]) hp1) p _ mup_same))
  generalize mup (mup (mup (mup μ1 p (MO.lst [D.int (k - 10 ^ Int.toNat 30 + 1)])) p1 (MO.lst [D.int (k - 10 ^ Int.toNat 30 + 1)])) p2 (MO.lst [D.adr p1, D.int 1])) p3 (MO.dk []) = μ3 at *
  have ne : ∀ {a m}, μ3 a = some m → (m = .dk [] ∨ ∃ xs, m = .lst xs ∧ xs.length ≤ 2) → a ≠ s := fun {a m} e h z => by
    obtain ⟨x1, x2, x3, h2⟩ := w3.1
    rw [z, h2] at e
    rcases h with rfl | ⟨xs, rfl, l⟩
    · cases e
    · cases e; simp at l
  have d3 := ne f3 (.inl rfl)
  have d2 := ne f2 (.inr ⟨_, rfl, by simp⟩)
  have d1 := ne f1 (.inr ⟨_, rfl, by simp⟩)
  refine ⟨s, _, rfl, w3.1, by omega, by omega, fun i μ4 i0 i1 t4 => ?_⟩
  have w4 := w3.trans t4.toW
  have g3 := t4.keep f3 d3
  have g2 := t4.keep f2 d2
  have g1 := t4.keep f1 d1
  have nd : ∀ {a : Addr}, a ≠ s → D.adr a ≠ .adr s := fun {a} h z => by cases z; exact h rfl
  obtain rfl | rfl | rfl | rfl | rfl | rfl | rfl | rfl | rfl | rfl | rfl : i = 0 ∨ i = 1 ∨ i = 2 ∨ i = 3 ∨ i = 4 ∨ i = 5 ∨ i = 6 ∨ i = 7 ∨ i = 8 ∨ i = 9 ∨ i = 10 := by omega
  · refine w_ixL rfl (RtC.same (q _ _ th_int (by simp) w4))
  · refine w_ixL rfl (RtC.same (q _ _ th_int (by simp) w4))
  · refine w_ixL rfl (RtC.same (q _ _ th_bl (by simp) w4))
  · refine w_ixL rfl (RtC.same (q _ _ th_bl (by simp) w4))
  · refine w_ixL rfl (RtC.same (q _ _ th_non (by simp) w4))
  · refine w_ixL rfl (RtC.same (q _ _ th_str (by simp) w4))
  · refine w_ixL rfl (RtC.same (q _ _ th_str (by simp) w4))
  · refine w_ixL rfl (RtC.same (q _ _ (th_lst g1 (by simp)) (nd d1) w4))
  · refine w_ixL rfl (RtC.same (q _ _ (th_lst g2 (by simp)) (nd d2) w4))
  · refine w_ixL rfl (RtC.same (q _ _ th_tup (by simp) w4))
  · refine w_ixL rfl (RtC.same (q _ _ (th_dk g3) (nd d3) w4))
def xn (k : Nat) : Str := ["place", "name", "name", "name", "line", "name", "row", "thing", "thing", "many", "thing", "kind", "kind", "thing", "", "kind", "word", "kind", ""].getD k ""
/-- the fields of the refusal, as they are stored; as they are told -/
def xfs (k : Nat) (a b : D) : List (Str × D) := if k = 11 then [("lacking", b), ("kind", a)] else if k = 12 then [("needed", b), ("kind", a)] else if k = 14 ∨ k = 18 then [] else [(xn k, a)]
def xvs (k : Nat) (a b : D) : List D := if k = 11 ∨ k = 12 then [a, b] else if k = 14 ∨ k = 18 then [] else [a]
theorem mup_at {μ : Mu} {p : Addr} {n m : MO} (e : m = n) : mup μ p m p = some n := e ▸ mup_same
/-! ### _law_first -/
def spLfirst (cc : Nat → Addr) : Sp2 := fun ds μ Q _ => ∃ (k : Nat) (a b : D), ds = [.int k, a, b] ∧ k < 19 ∧ ∀ p μ', Sub μ μ' → μ' p = some (.exc (cc (k + 1)) (xfs k a b)) → Q (.adr p) μ'
theorem DLfirst (T : Tt K mg cc) : Df P w K mg base "_law_first" 3 ["_law_k", "_law_one", "_law_other"] (spLfirst cc) := by
  refine T.xLfirst.ok scLfirst (by rintro ds μ Q E ⟨k, a, b, rfl, hk, q⟩ <;> rfl) (fun f cdv A outer s H E hr => ⟨_, _, (b_cons (s_if (t_lt (e_pv 0 (pv 0)) e_int)
      (b_cons (s_set (i := 3) (e_fz (e_lst (a_cons (e_mkX (INoText T) hr (by rfl) (a_cons (e_pv 1 (pv 1)) a_nil)) (a_cons (e_mkX (ITwice T) hr (by rfl) (a_cons (e_pv 1 (pv 1)) a_nil)) (a_cons (e_mkX (INoName T) hr (by rfl) (a_cons (e_pv 1 (pv 1)) a_nil)) (a_cons (e_mkX (INoFit T) hr (by rfl) (a_cons (e_pv 1 (pv 1)) a_nil)) (a_cons (e_mkX (IBadLine T) hr (by rfl) (a_cons (e_pv 1 (pv 1)) a_nil)) a_nil))))))) scLfirst.nd rfl (by first | exact Or.inl rfl | exact Or.inr rfl))
      (b_one (s_ret (e_ix (e_pv 3 (pv 3)) (e_pv 0 (pv 0)) (fun _ _ => rfl)))))
      b_nil)
      (b_cons (s_set (i := 3) (e_fz (e_lst (a_cons (e_mkX (INoKind T) hr (by rfl) (a_cons (e_pv 1 (pv 1)) a_nil)) (a_cons (e_mkX (INoRow T) hr (by rfl) (a_cons (e_pv 1 (pv 1)) a_nil)) (a_cons (e_mkX (INoState T) hr (by rfl) (a_cons (e_pv 1 (pv 1)) a_nil)) (a_cons (e_mkX (IBadStep T) hr (by rfl) (a_cons (e_pv 1 (pv 1)) a_nil)) (a_cons (e_mkX (INoPlaces T) hr (by rfl) (a_cons (e_pv 1 (pv 1)) a_nil)) (a_cons (e_mkX (INoSize T) hr (by rfl) (a_cons (e_pv 1 (pv 1)) a_nil)) (a_cons (e_mkX (INoRoom T) hr (by rfl) (a_cons (e_pv 1 (pv 1)) (a_cons (e_pv 2 (pv 2)) a_nil))) a_nil))))))))) scLfirst.nd rfl (by first | exact Or.inl rfl | exact Or.inr rfl))
      (b_cons (s_set (i := 3) (e_fzL (e_add (e_pv 3 (pv 3)) (e_fz (e_lst (a_cons (e_mkX (ICrowded T) hr (by rfl) (a_cons (e_pv 1 (pv 1)) (a_cons (e_pv 2 (pv 2)) a_nil))) (a_cons (e_mkX (INoBudget T) hr (by rfl) (a_cons (e_pv 1 (pv 1)) a_nil)) (a_cons (e_mkX0 (IWithin T) hr (by rfl)) (a_cons (e_mkX (INoChange T) hr (by rfl) (a_cons (e_pv 1 (pv 1)) a_nil)) (a_cons (e_mkX (IUnlike T) hr (by rfl) (a_cons (e_pv 1 (pv 1)) a_nil)) (a_cons (e_mkX (INotPlain T) hr (by rfl) (a_cons (e_pv 1 (pv 1)) a_nil)) (a_cons (e_mkX0 (INoLine T) hr (by rfl)) a_nil))))))))))) scLfirst.nd rfl (by first | exact Or.inl rfl | exact Or.inr rfl))
      (b_one (s_ret (e_ix (e_pv 3 (pv 3)) (e_sub (e_pv 0 (pv 0)) e_int) (fun _ _ => rfl))))))), ?_⟩)
  rintro ds μ Q E ⟨k, a, b, rfl, hk, q⟩
  walk_at "y"
  refine br_dec (fun h => ?_) (fun h => ?_)
  · walk_at "y"
    obtain rfl | rfl | rfl | rfl | rfl : k = 0 ∨ k = 1 ∨ k = 2 ∨ k = 3 ∨ k = 4 := by omega
    all_goals
      refine w_ixL rfl (RtC.same (q _ _ ?_ ?_))
      · repeat (first | (with_reducible exact Sub.refl) | (refine Sub.trans ?_ (Sub.new (by with_reducible assumption))))
      · repeat (first | (with_reducible refine mup_at ?_) | (refine Sub.new (by with_reducible assumption) _ _ ?_))
        rfl
  · walk_at "y"
    obtain rfl | rfl | rfl | rfl | rfl | rfl | rfl | rfl | rfl | rfl | rfl | rfl | rfl | rfl : k = 5 ∨ k = 6 ∨ k = 7 ∨ k = 8 ∨ k = 9 ∨ k = 10 ∨ k = 11 ∨ k = 12 ∨ k = 13 ∨ k = 14 ∨ k = 15 ∨ k = 16 ∨ k = 17 ∨ k = 18 := by omega
    all_goals
      refine w_ixL rfl (RtC.same (q _ _ ?_ ?_))
      · repeat (first | (with_reducible exact Sub.refl) | (refine Sub.trans ?_ (Sub.new (by with_reducible assumption))))
      · repeat (first | (with_reducible refine mup_at ?_) | (refine Sub.new (by with_reducible assumption) _ _ ?_))
        rfl
abbrev kx (j : Nat) : Nat := j + 1
theorem kit_by {K : PySem.W.Frag} {cc : Nat → Addr} {xs : List (Nat × Addr)} (h : QA K xs) (hx : ∀ j, j < 19 → (j + 1, cc (j + 1)) ∈ xs) {i j : Nat} (hi : i < 19) (hj : j < 19) : PySem.W.kitOne K (.ref (cc (i + 1))) (.ref (cc (j + 1))) = some (decide (i = j)) := by
  rw [h _ (hx i hi) _ (hx j hj)]
  congr 1
  exact decide_eq_decide.mpr ⟨Nat.succ.inj, fun h => by rw [h]⟩
theorem lt19 {p : Nat → Prop} (h : p 0 ∧ p 1 ∧ p 2 ∧ p 3 ∧ p 4 ∧ p 5 ∧ p 6 ∧ p 7 ∧ p 8 ∧ p 9 ∧ p 10 ∧ p 11 ∧ p 12 ∧ p 13 ∧ p 14 ∧ p 15 ∧ p 16 ∧ p 17 ∧ p 18) : ∀ j, j < 19 → p j := fun j hj => by
  obtain ⟨h0, h1, h2, h3, h4, h5, h6, h7, h8, h9, h10, h11, h12, h13, h14, h15, h16, h17, h18⟩ := h
  obtain rfl | rfl | rfl | rfl | rfl | rfl | rfl | rfl | rfl | rfl | rfl | rfl | rfl | rfl | rfl | rfl | rfl | rfl | rfl : j = 0 ∨ j = 1 ∨ j = 2 ∨ j = 3 ∨ j = 4 ∨ j = 5 ∨ j = 6 ∨ j = 7 ∨ j = 8 ∨ j = 9 ∨ j = 10 ∨ j = 11 ∨ j = 12 ∨ j = 13 ∨ j = 14 ∨ j = 15 ∨ j = 16 ∨ j = 17 ∨ j = 18 := by omega
  all_goals assumption
/-- which of the classes a thing is: the k-th, or the root -/
def kndB (cc : Nat → Addr) (C : Addr) (b : Nat → Bool) : Prop := (∃ k, k < 19 ∧ C = cc (k + 1) ∧ b = fun j => decide (k = j)) ∨ (C = cc 0 ∧ b = fun _ => false)
/-! ### _law_kinds -/
def spLkinds (cc : Nat → Addr) : Sp2 := fun ds μ Q _ => ∃ (p C : Addr) (fs : List (Str × D)) (b : Nat → Bool), ds = [.adr p] ∧ μ p = some (.exc C fs) ∧ kndB cc C b ∧ Q (.lst [.bl (b 0), .bl (b 1), .bl (b 2), .bl (b 3), .bl (b 4), .bl (b 5), .bl (b 6), .bl (b 7), .bl (b 8), .bl (b 9), .bl (b 10), .bl (b 11), .bl (b 12), .bl (b 13), .bl (b 14), .bl (b 15), .bl (b 16), .bl (b 17), .bl (b 18)]) μ
theorem DLkinds (T : Tt K mg cc) : Df P w K mg base "_law_kinds" 1 ["_law_error"] (spLkinds cc) := by
  have eX : ∀ j, j < 19 → ExcC K (cc (j + 1)) := lt19 (p := fun j => ExcC K (cc (j + 1))) ⟨T.e_NoText, T.e_Twice, T.e_NoName, T.e_NoFit, T.e_BadLine, T.e_NoKind, T.e_NoRow, T.e_NoState, T.e_BadStep, T.e_NoPlaces, T.e_NoSize, T.e_NoRoom, T.e_Crowded, T.e_NoBudget, T.e_Within, T.e_NoChange, T.e_Unlike, T.e_NotPlain, T.e_NoLine⟩
  have qX : ∀ i j, i < 19 → j < 19 → PySem.W.kitOne K (.ref (cc (i + 1))) (.ref (cc (j + 1))) = some (decide (i = j)) := fun i j hi hj => kit_by T.qa (lt19 (by simp)) hi hj
  have qR : ∀ j, j < 19 → PySem.W.kitOne K (.ref (cc 0)) (.ref (cc (j + 1))) = some false := fun j hj => (T.qr.2 _ (lt19 (p := fun j => (j + 1, cc (j + 1)) ∈ _) (by simp) j hj)).2.2
  refine T.xLkinds.ok scLkinds (by rintro ds μ Q E ⟨p, C, fs, b, rfl, hp, hk, q⟩ <;> rfl) (fun f cdv A outer s H E hr => ⟨_, _, (b_cons (s_set (i := 1) (e_fz (e_lst (a_cons (e_isE K rfl (by rfl) T.b_isinstance (a_cons (e_pv 0 (pv 0)) (a_cons (e_clsN (by rfl) T.k_NoText.gl) a_nil))) (a_cons (e_isE K rfl (by rfl) T.b_isinstance (a_cons (e_pv 0 (pv 0)) (a_cons (e_clsN (by rfl) T.k_Twice.gl) a_nil))) (a_cons (e_isE K rfl (by rfl) T.b_isinstance (a_cons (e_pv 0 (pv 0)) (a_cons (e_clsN (by rfl) T.k_NoName.gl) a_nil))) (a_cons (e_isE K rfl (by rfl) T.b_isinstance (a_cons (e_pv 0 (pv 0)) (a_cons (e_clsN (by rfl) T.k_NoFit.gl) a_nil))) a_nil)))))) scLkinds.nd rfl (by first | exact Or.inl rfl | exact Or.inr rfl))
      (b_cons (s_set (i := 1) (e_fzL (e_add (e_pv 1 (pv 1)) (e_fz (e_lst (a_cons (e_isE K rfl (by rfl) T.b_isinstance (a_cons (e_pv 0 (pv 0)) (a_cons (e_clsN (by rfl) T.k_BadLine.gl) a_nil))) (a_cons (e_isE K rfl (by rfl) T.b_isinstance (a_cons (e_pv 0 (pv 0)) (a_cons (e_clsN (by rfl) T.k_NoKind.gl) a_nil))) (a_cons (e_isE K rfl (by rfl) T.b_isinstance (a_cons (e_pv 0 (pv 0)) (a_cons (e_clsN (by rfl) T.k_NoRow.gl) a_nil))) a_nil))))))) scLkinds.nd rfl (by first | exact Or.inl rfl | exact Or.inr rfl))
      (b_cons (s_set (i := 1) (e_fzL (e_add (e_pv 1 (pv 1)) (e_fz (e_lst (a_cons (e_isE K rfl (by rfl) T.b_isinstance (a_cons (e_pv 0 (pv 0)) (a_cons (e_clsN (by rfl) T.k_NoState.gl) a_nil))) (a_cons (e_isE K rfl (by rfl) T.b_isinstance (a_cons (e_pv 0 (pv 0)) (a_cons (e_clsN (by rfl) T.k_BadStep.gl) a_nil))) (a_cons (e_isE K rfl (by rfl) T.b_isinstance (a_cons (e_pv 0 (pv 0)) (a_cons (e_clsN (by rfl) T.k_NoPlaces.gl) a_nil))) a_nil))))))) scLkinds.nd rfl (by first | exact Or.inl rfl | exact Or.inr rfl))
      (b_cons (s_set (i := 1) (e_fzL (e_add (e_pv 1 (pv 1)) (e_fz (e_lst (a_cons (e_isE K rfl (by rfl) T.b_isinstance (a_cons (e_pv 0 (pv 0)) (a_cons (e_clsN (by rfl) T.k_NoSize.gl) a_nil))) (a_cons (e_isE K rfl (by rfl) T.b_isinstance (a_cons (e_pv 0 (pv 0)) (a_cons (e_clsN (by rfl) T.k_NoRoom.gl) a_nil))) (a_cons (e_isE K rfl (by rfl) T.b_isinstance (a_cons (e_pv 0 (pv 0)) (a_cons (e_clsN (by rfl) T.k_Crowded.gl) a_nil))) a_nil))))))) scLkinds.nd rfl (by first | exact Or.inl rfl | exact Or.inr rfl))
      (b_cons (s_set (i := 1) (e_fzL (e_add (e_pv 1 (pv 1)) (e_fz (e_lst (a_cons (e_isE K rfl (by rfl) T.b_isinstance (a_cons (e_pv 0 (pv 0)) (a_cons (e_clsN (by rfl) T.k_NoBudget.gl) a_nil))) (a_cons (e_isE K rfl (by rfl) T.b_isinstance (a_cons (e_pv 0 (pv 0)) (a_cons (e_clsN (by rfl) T.k_Within.gl) a_nil))) (a_cons (e_isE K rfl (by rfl) T.b_isinstance (a_cons (e_pv 0 (pv 0)) (a_cons (e_clsN (by rfl) T.k_NoChange.gl) a_nil))) a_nil))))))) scLkinds.nd rfl (by first | exact Or.inl rfl | exact Or.inr rfl))
      (b_one (s_ret (e_fzL (e_add (e_pv 1 (pv 1)) (e_fz (e_lst (a_cons (e_isE K rfl (by rfl) T.b_isinstance (a_cons (e_pv 0 (pv 0)) (a_cons (e_clsN (by rfl) T.k_Unlike.gl) a_nil))) (a_cons (e_isE K rfl (by rfl) T.b_isinstance (a_cons (e_pv 0 (pv 0)) (a_cons (e_clsN (by rfl) T.k_NotPlain.gl) a_nil))) (a_cons (e_isE K rfl (by rfl) T.b_isinstance (a_cons (e_pv 0 (pv 0)) (a_cons (e_clsN (by rfl) T.k_NoLine.gl) a_nil))) a_nil)))))))))))))), ?_⟩)
  rintro ds μ Q E ⟨p, C, fs, b, rfl, hp, hk, q⟩
  have hE : ExcC K C := by
    rcases hk with ⟨k, hk, rfl, rfl⟩ | ⟨rfl, rfl⟩
    · exact eX k hk
    · exact T.e_RowsError
  have hQ : ∀ j, j < 19 → PySem.W.kitOne K (.ref C) (.ref (cc (j + 1))) = some (b j) := fun j hj => by
    rcases hk with ⟨k, hk, rfl, rfl⟩ | ⟨rfl, rfl⟩
    · exact qX k j hk hj
    · exact qR j hj
  walk_at "y"
  repeat (refine w_isE hp (.own _) hE (hQ _ (by decide)) ?_; walk_at "y")
  exact RtC.same q
theorem any_by {K : PySem.W.Frag} {cc : Nat → Addr} {C : Addr} {k : Nat} (hQ : ∀ j, j < 19 → PySem.W.kitOne K (.ref C) (.ref (cc (j + 1))) = some (decide (k = j))) : ∀ js : List Nat, (∀ j ∈ js, j < 19) → PySem.W.kitAny K (.ref C) (js.map fun j => .ref (cc (j + 1))) = some (decide (k ∈ js))
  | [], _ => by rw [decide_eq_false List.not_mem_nil]; rfl
  | j :: js, h => by
    rw [List.map_cons]
    unfold PySem.W.kitAny
    rw [hQ j (h j List.mem_cons_self)]
    by_cases e : k = j
    · rw [decide_eq_true e, decide_eq_true (by rw [e]; exact List.mem_cons_self)]
    · rw [decide_eq_false e]
      show PySem.W.kitAny K (.ref C) (js.map fun j => .ref (cc (j + 1))) = _
      rw [any_by hQ js fun i hi => h i (List.mem_cons_of_mem _ hi)]
      congr 1
      exact decide_eq_decide.mpr ⟨fun z => List.mem_cons_of_mem _ z, fun z => (List.mem_cons.mp z).resolve_left e⟩
/-! ### _law_fields -/
def spLfields (cc : Nat → Addr) : Sp2 := fun ds μ Q _ => ∃ (p : Addr) (k : Nat) (a b : D), ds = [.adr p] ∧ k < 19 ∧ μ p = some (.exc (cc (k + 1)) (xfs k a b)) ∧ Q (.lst (xvs k a b)) μ
theorem DLfields (T : Tt K mg cc) : Df P w K mg base "_law_fields" 1 ["_law_error"] (spLfields cc) := by
  have eX : ∀ j, j < 19 → ExcC K (cc (j + 1)) := lt19 (p := fun j => ExcC K (cc (j + 1))) ⟨T.e_NoText, T.e_Twice, T.e_NoName, T.e_NoFit, T.e_BadLine, T.e_NoKind, T.e_NoRow, T.e_NoState, T.e_BadStep, T.e_NoPlaces, T.e_NoSize, T.e_NoRoom, T.e_Crowded, T.e_NoBudget, T.e_Within, T.e_NoChange, T.e_Unlike, T.e_NotPlain, T.e_NoLine⟩
  have qX : ∀ i j, i < 19 → j < 19 → PySem.W.kitOne K (.ref (cc (i + 1))) (.ref (cc (j + 1))) = some (decide (i = j)) := fun i j hi hj => kit_by T.qa (lt19 (by simp)) hi hj
  refine T.xLfields.ok scLfields (by rintro ds μ Q E ⟨p, k, a, b, rfl, hk, hp, q⟩ <;> rfl) (fun f cdv A outer s H E hr => ⟨_, _, (b_cons (s_if (t_val (e_isE K rfl (by rfl) T.b_isinstance (a_cons (e_pv 0 (pv 0)) (a_cons (e_clsN (by rfl) T.k_NoText.gl) a_nil))))
      (b_one (s_ret (e_fz (e_lst (a_cons (e_xfV K rfl (e_pv 0 (pv 0))) a_nil)))))
      b_nil)
      (b_cons (s_if (t_val (e_isET K rfl (by rfl) T.b_isinstance (e_pv 0 (pv 0)) (a_cons (e_clsN (by rfl) T.k_Twice.gl) (a_cons (e_clsN (by rfl) T.k_NoName.gl) (a_cons (e_clsN (by rfl) T.k_NoFit.gl) (a_cons (e_clsN (by rfl) T.k_NoKind.gl) a_nil))))))
      (b_one (s_ret (e_fz (e_lst (a_cons (e_xfV K rfl (e_pv 0 (pv 0))) a_nil)))))
      b_nil)
      (b_cons (s_if (t_val (e_isE K rfl (by rfl) T.b_isinstance (a_cons (e_pv 0 (pv 0)) (a_cons (e_clsN (by rfl) T.k_BadLine.gl) a_nil))))
      (b_one (s_ret (e_fz (e_lst (a_cons (e_xfV K rfl (e_pv 0 (pv 0))) a_nil)))))
      b_nil)
      (b_cons (s_if (t_val (e_isE K rfl (by rfl) T.b_isinstance (a_cons (e_pv 0 (pv 0)) (a_cons (e_clsN (by rfl) T.k_NoRow.gl) a_nil))))
      (b_one (s_ret (e_fz (e_lst (a_cons (e_xfV K rfl (e_pv 0 (pv 0))) a_nil)))))
      b_nil)
      (b_cons (s_if (t_val (e_isET K rfl (by rfl) T.b_isinstance (e_pv 0 (pv 0)) (a_cons (e_clsN (by rfl) T.k_NoState.gl) (a_cons (e_clsN (by rfl) T.k_BadStep.gl) (a_cons (e_clsN (by rfl) T.k_NoSize.gl) (a_cons (e_clsN (by rfl) T.k_NoBudget.gl) a_nil))))))
      (b_one (s_ret (e_fz (e_lst (a_cons (e_xfV K rfl (e_pv 0 (pv 0))) a_nil)))))
      b_nil)
      (b_cons (s_if (t_val (e_isE K rfl (by rfl) T.b_isinstance (a_cons (e_pv 0 (pv 0)) (a_cons (e_clsN (by rfl) T.k_NoPlaces.gl) a_nil))))
      (b_one (s_ret (e_fz (e_lst (a_cons (e_xfV K rfl (e_pv 0 (pv 0))) a_nil)))))
      b_nil)
      (b_cons (s_if (t_val (e_isE K rfl (by rfl) T.b_isinstance (a_cons (e_pv 0 (pv 0)) (a_cons (e_clsN (by rfl) T.k_NoRoom.gl) a_nil))))
      (b_one (s_ret (e_fz (e_lst (a_cons (e_xfV K rfl (e_pv 0 (pv 0))) (a_cons (e_xfV K rfl (e_pv 0 (pv 0))) a_nil))))))
      b_nil)
      (b_cons (s_if (t_val (e_isE K rfl (by rfl) T.b_isinstance (a_cons (e_pv 0 (pv 0)) (a_cons (e_clsN (by rfl) T.k_Crowded.gl) a_nil))))
      (b_one (s_ret (e_fz (e_lst (a_cons (e_xfV K rfl (e_pv 0 (pv 0))) (a_cons (e_xfV K rfl (e_pv 0 (pv 0))) a_nil))))))
      b_nil)
      (b_cons (s_if (t_val (e_isET K rfl (by rfl) T.b_isinstance (e_pv 0 (pv 0)) (a_cons (e_clsN (by rfl) T.k_NoChange.gl) (a_cons (e_clsN (by rfl) T.k_NotPlain.gl) a_nil))))
      (b_one (s_ret (e_fz (e_lst (a_cons (e_xfV K rfl (e_pv 0 (pv 0))) a_nil)))))
      b_nil)
      (b_cons (s_if (t_val (e_isE K rfl (by rfl) T.b_isinstance (a_cons (e_pv 0 (pv 0)) (a_cons (e_clsN (by rfl) T.k_Unlike.gl) a_nil))))
      (b_one (s_ret (e_fz (e_lst (a_cons (e_xfV K rfl (e_pv 0 (pv 0))) a_nil)))))
      b_nil)
      (b_one (s_ret (e_fz (e_lst a_nil)))))))))))))), ?_⟩)
  rintro ds μ Q E ⟨p, k, a, b, rfl, hk, hp, q⟩
  have hE := eX k hk
  have hQ : ∀ j, j < 19 → PySem.W.kitOne K (.ref (cc (k + 1))) (.ref (cc (j + 1))) = some (decide (k = j)) := fun j hj => qX k j hk hj
  have hA := any_by hQ
  walk_at "y"
  refine w_isE hp (.own _) hE (hQ 0 (by decide)) ?_
  walk_at "y"
  refine br_dec (fun h => ?_) (fun h0 => ?_)
  · subst h
    walk_at "y"
    refine w_xfVK hp T.f_NoText (T.k_NoText.no _ (by simp)) rfl ?_
    walk_at "y"
    exact RtC.same q
  walk_at "y"
  refine w_isETK hp (.cons (.own _) (.cons (.own _) (.cons (.own _) (.cons (.own _) .nil)))) (by walk_at "sz") hE (hA [1, 2, 3, 5] (by decide)) ?_
  walk_at "y"
  refine br_dec (fun h => ?_) (fun h1 => ?_)
  · simp only [List.mem_cons, List.not_mem_nil, or_false] at h
    rcases h with rfl | rfl | rfl | rfl
    · walk_at "y"
      refine w_xfVK hp T.f_Twice (T.k_Twice.no _ (by simp)) rfl ?_
      walk_at "y"
      exact RtC.same q
    · walk_at "y"
      refine w_xfVK hp T.f_NoName (T.k_NoName.no _ (by simp)) rfl ?_
      walk_at "y"
      exact RtC.same q
    · walk_at "y"
      refine w_xfVK hp T.f_NoFit (T.k_NoFit.no _ (by simp)) rfl ?_
      walk_at "y"
      exact RtC.same q
    · walk_at "y"
      refine w_xfVK hp T.f_NoKind (T.k_NoKind.no _ (by simp)) rfl ?_
      walk_at "y"
      exact RtC.same q
  walk_at "y"
  refine w_isE hp (.own _) hE (hQ 4 (by decide)) ?_
  walk_at "y"
  refine br_dec (fun h => ?_) (fun h2 => ?_)
  · subst h
    walk_at "y"
    refine w_xfVK hp T.f_BadLine (T.k_BadLine.no _ (by simp)) rfl ?_
    walk_at "y"
    exact RtC.same q
  walk_at "y"
  refine w_isE hp (.own _) hE (hQ 6 (by decide)) ?_
  walk_at "y"
  refine br_dec (fun h => ?_) (fun h3 => ?_)
  · subst h
    walk_at "y"
    refine w_xfVK hp T.f_NoRow (T.k_NoRow.no _ (by simp)) rfl ?_
    walk_at "y"
    exact RtC.same q
  walk_at "y"
  refine w_isETK hp (.cons (.own _) (.cons (.own _) (.cons (.own _) (.cons (.own _) .nil)))) (by walk_at "sz") hE (hA [7, 8, 10, 13] (by decide)) ?_
  walk_at "y"
  refine br_dec (fun h => ?_) (fun h4 => ?_)
  · simp only [List.mem_cons, List.not_mem_nil, or_false] at h
    rcases h with rfl | rfl | rfl | rfl
    · walk_at "y"
      refine w_xfVK hp T.f_NoState (T.k_NoState.no _ (by simp)) rfl ?_
      walk_at "y"
      exact RtC.same q
    · walk_at "y"
      refine w_xfVK hp T.f_BadStep (T.k_BadStep.no _ (by simp)) rfl ?_
      walk_at "y"
      exact RtC.same q
    · walk_at "y"
      refine w_xfVK hp T.f_NoSize (T.k_NoSize.no _ (by simp)) rfl ?_
      walk_at "y"
      exact RtC.same q
    · walk_at "y"
      refine w_xfVK hp T.f_NoBudget (T.k_NoBudget.no _ (by simp)) rfl ?_
      walk_at "y"
      exact RtC.same q
  walk_at "y"
  refine w_isE hp (.own _) hE (hQ 9 (by decide)) ?_
  walk_at "y"
  refine br_dec (fun h => ?_) (fun h5 => ?_)
  · subst h
    walk_at "y"
    refine w_xfVK hp T.f_NoPlaces (T.k_NoPlaces.no _ (by simp)) rfl ?_
    walk_at "y"
    exact RtC.same q
  walk_at "y"
  refine w_isE hp (.own _) hE (hQ 11 (by decide)) ?_
  walk_at "y"
  refine br_dec (fun h => ?_) (fun h6 => ?_)
  · subst h
    walk_at "y"
    refine w_xfVK hp T.f_NoRoom (T.k_NoRoom.no _ (by simp)) rfl ?_
    walk_at "y"
    refine w_xfVK hp T.f_NoRoom (T.k_NoRoom.no _ (by simp)) rfl ?_
    walk_at "y"
    exact RtC.same q
  walk_at "y"
  refine w_isE hp (.own _) hE (hQ 12 (by decide)) ?_
  walk_at "y"
  refine br_dec (fun h => ?_) (fun h7 => ?_)
  · subst h
    walk_at "y"
    refine w_xfVK hp T.f_Crowded (T.k_Crowded.no _ (by simp)) rfl ?_
    walk_at "y"
    refine w_xfVK hp T.f_Crowded (T.k_Crowded.no _ (by simp)) rfl ?_
    walk_at "y"
    exact RtC.same q
  walk_at "y"
  refine w_isETK hp (.cons (.own _) (.cons (.own _) .nil)) (by walk_at "sz") hE (hA [15, 17] (by decide)) ?_
  walk_at "y"
  refine br_dec (fun h => ?_) (fun h8 => ?_)
  · simp only [List.mem_cons, List.not_mem_nil, or_false] at h
    rcases h with rfl | rfl
    · walk_at "y"
      refine w_xfVK hp T.f_NoChange (T.k_NoChange.no _ (by simp)) rfl ?_
      walk_at "y"
      exact RtC.same q
    · walk_at "y"
      refine w_xfVK hp T.f_NotPlain (T.k_NotPlain.no _ (by simp)) rfl ?_
      walk_at "y"
      exact RtC.same q
  walk_at "y"
  refine w_isE hp (.own _) hE (hQ 16 (by decide)) ?_
  walk_at "y"
  refine br_dec (fun h => ?_) (fun h9 => ?_)
  · subst h
    walk_at "y"
    refine w_xfVK hp T.f_Unlike (T.k_Unlike.no _ (by simp)) rfl ?_
    walk_at "y"
    exact RtC.same q
  simp only [List.mem_cons, List.not_mem_nil, or_false] at h1 h4 h8
  walk_at "y"
  obtain rfl | rfl : k = 14 ∨ k = 18 := by omega
  · exact RtC.same q
  · exact RtC.same q
def isBl : D → Bool
  | .bl _ => true
  | _ => false
/-- things side by side: alike, and truths alike -/
def TyB (μ : Mu) (x : D) : Prop := ∃ t, tyD μ x = some t ∧ kitB t "bool" = some (isBl x)
def Sm (μ : Mu) (x y : D) : Prop := EqDn μ 3 x y ∧ isBl x = isBl y ∧ TyB μ x ∧ TyB μ y
theorem pair_mem {α β : Type} {R : α → β → Prop} : ∀ {xs : List α} {ys : List β}, Paired R xs ys → (∀ x ∈ xs, ∃ y, R x y) ∧ ∀ y ∈ ys, ∃ x, R x y
  | _, _, .nil => ⟨fun _ h => absurd h List.not_mem_nil, fun _ h => absurd h List.not_mem_nil⟩
  | _, _, .cons h t => ⟨fun x hx => (List.mem_cons.mp hx).elim (fun e => ⟨_, e ▸ h⟩) ((pair_mem t).1 x), fun y hy => (List.mem_cons.mp hy).elim (fun e => ⟨_, e ▸ h⟩) ((pair_mem t).2 y)⟩
theorem pair_self {α : Type} {R : α → α → Prop} : ∀ {l : List α}, (∀ x ∈ l, R x x) → Paired R l l
  | [], _ => .nil
  | x :: l, h => .cons (h x List.mem_cons_self) (pair_self fun y hy => h y (List.mem_cons_of_mem _ hy))
theorem pair_map {μ : Mu} : ∀ {xs ys : List D}, Paired (Sm μ) xs ys → xs.map isBl = ys.map isBl
  | _, _, .nil => rfl
  | _, _, .cons h t => by rw [List.map_cons, List.map_cons, h.2.1, pair_map t]
/-! ### _law_same -/
def spLsame : Sp2 := fun ds μ Q _ => ∃ (xs ys : List D), ds = [.lst xs, .lst ys] ∧ xs.length ≤ 5 ∧ Paired (Sm μ) xs ys ∧ Q (.bl true) μ
theorem DLsame (T : Tt K mg cc) : Df P w K mg base "_law_same" 1 ["_law_found", "_law_due"] (spLsame) := by
  refine T.xLsame.ok scLsame (by rintro ds μ Q E ⟨xs, ys, rfl, hl, hP, q⟩ <;> rfl) (fun f cdv A outer s H E hr => ⟨_, _, (b_cons (s_if (t_w (k_or (t_ne hr (e_len (by rfl) T.b_len (a_cons (e_pv 0 (pv 0)) a_nil)) (e_len (by rfl) T.b_len (a_cons (e_pv 1 (pv 1)) a_nil))) (k_or1 (t_neX hr (e_pv 0 (pv 0)) (e_pv 1 (pv 1))))))
      (b_one (s_ret e_bl))
      b_nil)
      (b_one (s_ret (e_eqX hr (e_fz (e_lc (own := [("_law_one", 2)]) rfl scLsame.nd (j_l (e_pv 0 (pv 0))) (blkOk_by (N := nLsame) (sc := defScope sLsame) (by decide +kernel)) (fun _ _ _ _ _ => ⟨_, (g_nm (pg_name (i := 2) scLsame.nd rfl (by first | exact Or.inl rfl | exact Or.inr rfl)))⟩) (fun _ _ _ _ _ => ⟨_, ts_none⟩) (fun _ _ _ _ _ => ⟨_, (e_isi (by rfl) T.b_isinstance (a_cons (e_pv 2 (pv 2)) (a_cons (e_bty (n := "bool") (by rfl) T.b_bool (by decide +kernel)) a_nil)))⟩))) (e_fz (e_lc (own := [("_law_one", 2)]) rfl scLsame.nd (j_l (e_pv 1 (pv 1))) (blkOk_by (N := nLsame) (sc := defScope sLsame) (by decide +kernel)) (fun _ _ _ _ _ => ⟨_, (g_nm (pg_name (i := 2) scLsame.nd rfl (by first | exact Or.inl rfl | exact Or.inr rfl)))⟩) (fun _ _ _ _ _ => ⟨_, ts_none⟩) (fun _ _ _ _ _ => ⟨_, (e_isi (by rfl) T.b_isinstance (a_cons (e_pv 2 (pv 2)) (a_cons (e_bty (n := "bool") (by rfl) T.b_bool (by decide +kernel)) a_nil)))⟩))))))), ?_⟩)
  rintro ds μ Q E ⟨xs, ys, rfl, hl, hP, q⟩
  have hll : xs.length = ys.length := Paired.length hP
  have hE : Paired (EqDn μ 3) xs ys := Paired.mapP hP fun _ _ h => h.1
  walk_at "y"
  refine w_neXL asL_lst asL_lst 3 (by decide) hE ?_
  walk_at "y"
  rw [show dLcs _ _ _ _ _ _ xs [] μ = dLcs _ _ _ _ _ _ (xs.map fun x => x) [] μ by rw [List.map_id']]
  refine w_lcM (fun x => x) (fun d => D.bl (isBl d)) (by walk_at "g") (sz_lt (by omega)) (fun d hd N N0 hN => ?_) (fun p1 hp1 => ?_)
  · obtain ⟨y, hy⟩ := (pair_mem hP).1 d hd
    obtain ⟨t, h1, h2⟩ := hy.2.2.1
    walk_at "y"
    refine w_isi h1 h2 ?_
    exact hN
  walk_at "y"
  rw [show dLcs _ _ _ _ _ _ ys [] μ = dLcs _ _ _ _ _ _ (ys.map fun x => x) [] μ by rw [List.map_id']]
  refine w_lcM (fun x => x) (fun d => D.bl (isBl d)) (by walk_at "g") (sz_lt (by omega)) (fun d hd N N0 hN => ?_) (fun p1 hp1 => ?_)
  · obtain ⟨x, hx⟩ := (pair_mem hP).2 d hd
    obtain ⟨t, h1, h2⟩ := hx.2.2.2
    walk_at "y"
    refine w_isi h1 h2 ?_
    exact hN
  walk_at "y"
  have e : xs.map (fun d => D.bl (isBl d)) = ys.map fun d => D.bl (isBl d) := by
    have := congrArg (List.map D.bl) (pair_map hP)
    rw [List.map_map, List.map_map] at this
    exact this
  rw [e]
  refine w_eqXL asL_lst asL_lst 1 (by decide) (pair_self fun d hd => ?_) ?_
  · obtain ⟨y, _, rfl⟩ := List.mem_map.mp hd
    exact .inl ⟨rfl, rfl⟩
  exact RtC.same q
theorem xvs_len {k : Nat} {a b : D} (hk : k < 19) : (xvs k a b).length ≤ 2 := by
  unfold xvs
  split
  · exact Nat.le_refl _
  · split
    · exact Nat.zero_le _
    · exact (by decide : 1 ≤ 2)
theorem Th.ty {n : Nat} {μ : Mu} {d : D} (h : Th n μ d) : TyB μ d := by
  rcases h with ⟨h, hn⟩ | ⟨i, rfl⟩ | ⟨a, rfl, h | ⟨xs, h, _⟩⟩
  · cases d with
    | non => exact ⟨_, rfl, rfl⟩
    | bl _ => exact ⟨_, rfl, rfl⟩
    | int _ => exact ⟨_, rfl, rfl⟩
    | str _ => exact ⟨_, rfl, rfl⟩
    | ty n => exact absurd rfl (hn n)
    | adr _ => cases h
    | tup _ => cases h
    | lst _ => cases h
    | obj _ _ _ => cases h
    | scr _ => cases h
    | tun _ => cases h
  · exact ⟨_, rfl, rfl⟩
  · exact ⟨_, tyD_dk h, rfl⟩
  · exact ⟨_, tyD_lst h, rfl⟩
theorem Th.sm {n : Nat} {μ : Mu} {d : D} (h : Th n μ d) : Sm μ d d := by
  refine ⟨?_, rfl, h.ty, h.ty⟩
  rcases h with ⟨h, _⟩ | ⟨i, rfl⟩ | ⟨a, rfl, _⟩
  · exact .inl ⟨rfl, h⟩
  · exact .inr (.inr (.inr ⟨_, _, rfl, rfl, .cons (.inl ⟨rfl, rfl⟩) .nil⟩))
  · exact .inr (.inl ⟨a, rfl, rfl⟩)
theorem inn_int04 (z : Int) (l : List Int) : (D.int z).inn (l.map D.int) = decide (z ∈ l) := by
  induction l with
  | nil => rfl
  | cons x l ih =>
    show (decide (x = z) || (D.int z).inn (l.map D.int)) = _
    rw [ih]
    by_cases h : z = x
    · subst h; simp
    · rw [decide_eq_false (fun e : x = z => h e.symm), Bool.false_or]
      exact decide_eq_decide.mpr ⟨List.mem_cons_of_mem _, fun e => (List.mem_cons.mp e).elim (fun e => absurd e h) id⟩
/-- how many fields a refusal has -/
def xmn (k : Nat) : Int := if k = 11 ∨ k = 12 then 2 else if k = 14 ∨ k = 18 then 0 else 1
theorem xmn_ix {k : Nat} (hk : k < 19) : atI [D.int 1, D.int 2, D.int 0] ((if decide ((k : Int) ∈ ([11, 12] : List Int)) = true then 1 else 0) + 2 * if decide ((k : Int) ∈ ([14, 18] : List Int)) = true then 1 else 0) = some (.int (xmn k)) :=
  lt19 (p := fun k => atI [D.int 1, D.int 2, D.int 0] ((if decide ((k : Int) ∈ ([11, 12] : List Int)) = true then 1 else 0) + 2 * if decide ((k : Int) ∈ ([14, 18] : List Int)) = true then 1 else 0) = some (.int (xmn k))) ⟨rfl, rfl, rfl, rfl, rfl, rfl, rfl, rfl, rfl, rfl, rfl, rfl, rfl, rfl, rfl, rfl, rfl, rfl, rfl⟩ k hk
theorem xmn_cut {k : Nat} {a b c : D} (hk : k < 19) : cutD [a, b, c] none (some (xmn k)) = xvs k a b :=
  lt19 (p := fun k => cutD [a, b, c] none (some (xmn k)) = xvs k a b) ⟨rfl, rfl, rfl, rfl, rfl, rfl, rfl, rfl, rfl, rfl, rfl, rfl, rfl, rfl, rfl, rfl, rfl, rfl, rfl⟩ k hk
theorem xvs_pair {R : D → D → Prop} {k : Nat} {a b c d : D} (h1 : R a c) (h2 : R b d) : Paired R (xvs k a b) (xvs k c d) := by
  unfold xvs
  split
  · exact .cons h1 (.cons h2 .nil)
  · split
    · exact .nil
    · exact .cons h1 .nil
theorem xvs_rep {k : Nat} {a : D} (hk : k < 19) : (List.replicate (xmn k).toNat [a]).flatten = xvs k a a :=
  lt19 (p := fun k => (List.replicate (xmn k).toNat [a]).flatten = xvs k a a) ⟨rfl, rfl, rfl, rfl, rfl, rfl, rfl, rfl, rfl, rfl, rfl, rfl, rfl, rfl, rfl, rfl, rfl, rfl, rfl⟩ k hk
theorem xmn_lt {k : Nat} : 0 ≤ xmn k ∧ xmn k ≤ 2 := by
  unfold xmn
  split
  · exact ⟨by decide, by decide⟩
  · split <;> exact ⟨by decide, by decide⟩
/-! ### _law_right -/
def spLright : Sp2 := fun ds μ Q _ => ∃ (s : Addr) (k : Nat), ds = [.adr s, .int k] ∧ Strm μ s ∧ k < 19 ∧ ∀ μ', Strm μ' s → Q (.bl true) μ'
theorem DLright (T : Tt K mg cc) : Df P w K mg base "_law_right" 4 ["_law_stream_here", "_law_k"] (spLright) := by
  have DLthing := DLthing (P := P) (w := w) (base := base) T
  have DLfirst := DLfirst (P := P) (w := w) (base := base) T
  have DLkinds := DLkinds (P := P) (w := w) (base := base) T
  have DLfields := DLfields (P := P) (w := w) (base := base) T
  have DLsame := DLsame (P := P) (w := w) (base := base) T
  have eX : ∀ j, j < 19 → ExcC K (cc (j + 1)) := lt19 (p := fun j => ExcC K (cc (j + 1))) ⟨T.e_NoText, T.e_Twice, T.e_NoName, T.e_NoFit, T.e_BadLine, T.e_NoKind, T.e_NoRow, T.e_NoState, T.e_BadStep, T.e_NoPlaces, T.e_NoSize, T.e_NoRoom, T.e_Crowded, T.e_NoBudget, T.e_Within, T.e_NoChange, T.e_Unlike, T.e_NotPlain, T.e_NoLine⟩
  have qR := fun j (hj : j < 19) => T.qr.2 _ (lt19 (p := fun j => (j + 1, cc (j + 1)) ∈ _) (by simp) j hj)
  refine T.xLright.ok scLright (by rintro ds μ Q E ⟨s, k, rfl, hS, hk, q⟩ <;> rfl) (fun f cdv A outer s H E hr => ⟨_, _, (b_cons (s_set (i := 2) (e_fz (e_lst (a_cons (e_call DLthing hr (by rfl) (a_cons (e_pv 0 (pv 0)) a_nil)) (a_cons (e_call DLthing hr (by rfl) (a_cons (e_pv 0 (pv 0)) a_nil)) (a_cons (e_lst (a_cons e_str a_nil)) a_nil))))) scLright.nd rfl (by first | exact Or.inl rfl | exact Or.inr rfl))
      (b_cons (s_set (i := 3) (e_ix (e_fz (e_lst (a_cons e_int (a_cons e_int (a_cons e_int a_nil))))) (e_add (e_int1 (by rfl) T.b_int (a_cons (e_in (e_pv 1 (pv 1)) (e_tup (a_cons e_int (a_cons e_int a_nil))) (by rfl)) a_nil)) (e_mulA e_int (e_int1 (by rfl) T.b_int (a_cons (e_in (e_pv 1 (pv 1)) (e_tup (a_cons e_int (a_cons e_int a_nil))) (by rfl)) a_nil)))) (fun _ _ => rfl)) scLright.nd rfl (by first | exact Or.inl rfl | exact Or.inr rfl))
      (b_cons (s_set (i := 4) (e_call DLfirst hr (by rfl) (a_cons (e_pv 1 (pv 1)) (a_cons (e_ix (e_pv 2 (pv 2)) e_int (fun _ _ => rfl)) (a_cons (e_ix (e_pv 2 (pv 2)) e_int (fun _ _ => rfl)) a_nil)))) scLright.nd rfl (by first | exact Or.inl rfl | exact Or.inr rfl))
      (b_cons (s_set (i := 5) (e_call DLfirst hr (by rfl) (a_cons (e_pv 1 (pv 1)) (a_cons (e_ix (e_pv 2 (pv 2)) e_int (fun _ _ => rfl)) (a_cons (e_ix (e_pv 2 (pv 2)) e_int (fun _ _ => rfl)) a_nil)))) scLright.nd rfl (by first | exact Or.inl rfl | exact Or.inr rfl))
      (b_cons (s_if (t_w (k_or (t_not (t_val (e_isE K rfl (by rfl) T.b_isinstance (a_cons (e_pv 4 (pv 4)) (a_cons (e_clsN (by rfl) T.r_RowsError.mg) a_nil))))) (k_or1 (t_not (t_val (e_isE K rfl (by rfl) T.b_isinstance (a_cons (e_pv 4 (pv 4)) (a_cons (e_bty (n := "ValueError") (by rfl) T.b_ValueError (by decide +kernel)) a_nil))))))))
      (b_one (s_ret e_bl))
      b_nil)
      (b_cons (s_if (t_w (k_or (t_neX hr (e_call DLkinds hr (by rfl) (a_cons (e_pv 4 (pv 4)) a_nil)) (e_fz (e_lc (own := [("_law_j", 7)]) rfl scLright.nd (j_r1 (by rfl) T.b_range (a_cons e_int a_nil)) (blkOk_by (N := nLright) (sc := defScope sLright) (by decide +kernel)) (fun _ _ _ _ _ => ⟨_, (g_nm (pg_name (i := 7) scLright.nd rfl (by first | exact Or.inl rfl | exact Or.inr rfl)))⟩) (fun _ _ _ _ _ => ⟨_, ts_none⟩) (fun _ _ _ _ _ => ⟨_, (e_eq hr (e_pv 7 (pv 7)) (e_pv 1 (pv 1)))⟩)))) (k_or1 (t_not (t_val (e_call DLsame hr (by rfl) (a_cons (e_call DLfields hr (by rfl) (a_cons (e_pv 4 (pv 4)) a_nil)) (a_cons (e_fzL (e_slice (e_pv 2 (pv 2)) o_none (o_some (e_pv 3 (pv 3))))) a_nil))))))))
      (b_one (s_ret e_bl))
      b_nil)
      (b_cons (s_for PassesOwn.never rfl (j_l (e_pv 2 (pv 2))) (g_nm (pg_name (i := 6) scLright.nd rfl (by first | exact Or.inl rfl | exact Or.inr rfl)))
      (b_one (s_if (t_val (e_isi (by rfl) T.b_isinstance (a_cons (e_pv 6 (pv 6)) (a_cons (e_bty (n := "list") (by rfl) T.b_list (by decide +kernel)) a_nil))))
      (b_one (s_expr (e_app (e_pv 6 (pv 6)) (a_cons e_int a_nil))))
      b_nil)))
      (b_cons (s_if (t_not (t_val (e_call DLsame hr (by rfl) (a_cons (e_call DLfields hr (by rfl) (a_cons (e_pv 4 (pv 4)) a_nil)) (a_cons (e_fzL (e_slice (e_pv 2 (pv 2)) o_none (o_some (e_pv 3 (pv 3))))) a_nil)))))
      (b_one (s_ret e_bl))
      b_nil)
      (b_one (s_ret (e_call DLsame hr (by rfl) (a_cons (e_call DLfields hr (by rfl) (a_cons (e_pv 5 (pv 5)) a_nil)) (a_cons (e_fzL (e_mulA (e_fz (e_lst (a_cons (e_fz (e_lst (a_cons e_str (a_cons e_int a_nil)))) a_nil))) (e_pv 3 (pv 3)))) a_nil))))))))))))), ?_⟩)
  rintro ds μ Q E ⟨s, k, rfl, hS, hk, q⟩
  walk_at "y"
  refine ⟨s, rfl, hS, fun d1 μ1 th1 n1 w1 => ?_⟩
  walk_at "y"
  refine ⟨s, rfl, w1.1, fun d2 μ2 th2 n2 w2 => ?_⟩
  walk_at "y"
  intro p3 hp3
  walk_at "y"
  refine w_inS (ds := ([11, 12] : List Int).map D.int) asS_tup rfl rfl ?_
  rw [inn_int04]
  walk_at "y"
  refine w_inS (ds := ([14, 18] : List Int).map D.int) asS_tup rfl rfl ?_
  rw [inn_int04]
  walk_at "y"
  refine w_ixL (xmn_ix hk) ?_
  have hS3 := w2.1.new (m := MO.lst [D.str (Str.ofString "b")]) hp3
  have f3 := mup_same (μ := μ2) (a := p3) (m := MO.lst [D.str (Str.ofString "b")])
  have sb3 : Sub μ2 (mup μ2 p3 (MO.lst [D.str (Str.ofString "b")])) := Sub.new hp3
  generalize mup μ2 p3 (MO.lst [D.str (Str.ofString "b")]) = μ3 at *
  walk_at "y"
  refine ⟨k, d1, d2, rfl, hk, fun pe μ4 s4 e4 => ?_⟩
  walk_at "y"
  refine ⟨k, .adr p3, .adr p3, rfl, hk, fun pb μ5 s5 e5 => ?_⟩
  have e45 := s5 _ _ e4
  walk_at "y"
  refine w_isE e45 (.own _) (eX k hk) (qR k hk).1 ?_
  walk_at "y"
  refine w_isE e45 (.ty _) (eX k hk) (qR k hk).2.1 ?_
  walk_at "y"
  refine ⟨pe, cc (k + 1), _, _, rfl, e45, .inl ⟨k, hk, rfl, rfl⟩, ?_⟩
  walk_at "y"
  rw [show rngD 0 (Int.toNat 19) = (List.range 19).map fun j : Nat => D.int (j : Int) from rfl]
  refine w_lcM (fun j : Nat => D.int (j : Int)) (fun j : Nat => D.bl (decide ((j : Int) = (k : Int)))) trivial (sz_lt (by decide)) (fun j hj N N0 hN => ?_) (fun p6 hp6 => ?_)
  · walk_at "y"
    exact hN
  rw [show (List.range 19).map (fun j : Nat => D.bl (decide ((j : Int) = (k : Int)))) = (List.range 19).map fun j => D.bl (decide (k = j)) from List.map_congr_left fun j _ => by
    congr 1
    exact decide_eq_decide.mpr ⟨fun h => (Int.ofNat.inj h).symm, fun h => by rw [h]⟩]
  walk_at "y"
  refine w_neXL asL_lst asL_lst 1 (by decide) (es := (List.range 19).map fun j => D.bl (decide (k = j))) (pair_self fun d hd => ?_) ?_
  · obtain ⟨j, _, rfl⟩ := List.mem_map.mp (show d ∈ (List.range 19).map fun j => D.bl (decide (k = j)) from hd)
    exact .inl ⟨rfl, rfl⟩
  walk_at "y"
  have h1 : Th 2 μ5 d1 := (((th1.tkw w1.1 w2).sub sb3).sub s4).sub s5
  have h2 : Th 2 μ5 d2 := ((th2.sub sb3).sub s4).sub s5
  have h3 := s5 _ _ (s4 _ _ f3)
  have hS5 : Strm μ5 s := by
    obtain ⟨x1, x2, x3, e⟩ := hS3
    exact ⟨x1, x2, x3, s5 _ _ (s4 _ _ e)⟩
  have np : ∀ d, Th 2 μ2 d → d ≠ .adr p3 := fun d h z => by
    subst z
    rcases h with ⟨h, _⟩ | ⟨i, h⟩ | ⟨a, h, g⟩
    · cases h
    · cases h
    · cases h
      rcases g with g | ⟨xs, g, _⟩ <;> (rw [hp3] at g; cases g)
  have np1 := np d1 (th1.tkw w1.1 w2)
  have np2 := np d2 th2
  refine ⟨pe, k, d1, d2, rfl, hk, e45, ?_⟩
  walk_at "y"
  rw [xmn_cut hk]
  walk_at "y"
  refine ⟨_, _, rfl, Nat.le_trans (xvs_len hk) (by decide), xvs_pair h1.sm h2.sm, ?_⟩
  walk_at "y"
  let E : Env2 := ((((start2 nLright [.adr s, .int k]).set 2 (some (.lst [d1, d2, .adr p3]))).set 3 (some (.int (xmn k)))).set 4 (some (.adr pe))).set 5 (some (.adr pb))
  refine Y.Cl.at (ρ' := E) (by walk_at "less") Sub.refl (w_turns (fun xs ρ μ' => ρ = E ∧ Strm μ' s ∧ μ' pe = some (.exc (cc (k + 1)) (xfs k d1 d2)) ∧ μ' pb = some (.exc (cc (k + 1)) (xfs k (.adr p3) (.adr p3))) ∧ ∃ n, 1 ≤ n ∧ n + xs.length ≤ 5 ∧ Th n μ' d1 ∧ Th n μ' d2 ∧ (((xs = [d1, d2, .adr p3] ∨ xs = [d2, .adr p3] ∨ xs = [.adr p3]) ∧ μ' p3 = some (.lst [.str "b"])) ∨ (xs = [] ∧ μ' p3 = some (.lst [.str "b", .int 7])))) (fun _ _ _ _ => by walk_at "g") ?_ ?_ _ _ _ ⟨rfl, hS5, e45, e5, 2, by decide, by simp, h1, h2, .inl ⟨.inl rfl, h3⟩⟩)
  · rintro d xs _ μ6 ⟨rfl, hS6, x1, x2, n, n1', hn, t1, t2, ⟨hx, y3⟩ | ⟨hx, _⟩⟩ N hN
    · have hd : (Th n μ6 d ∧ d ≠ .adr p3 ∧ d ≠ .adr s ∧ (xs = [d2, .adr p3] ∨ xs = [.adr p3])) ∨ (d = .adr p3 ∧ xs = []) := by
        rcases hx with hx | hx | hx
        · cases hx; exact .inl ⟨t1, np1, n1, .inl rfl⟩
        · cases hx; exact .inl ⟨t2, np2, n2, .inr rfl⟩
        · cases hx; exact .inr ⟨rfl, rfl⟩
      rw [List.length_cons] at hn
      rcases hd with ⟨td, dp, ds, hxs⟩ | ⟨rfl, rfl⟩
      · walk_at "y"
        rcases td.isl with ⟨t, z1, z2⟩ | ⟨a, ys, rfl, ha, hl⟩
        · refine w_isi z1 z2 ?_
          walk_at "y"
          exact Y.Cl.at (ρ' := E) (by walk_at "less") Sub.refl (hN _ _ ⟨rfl, hS6, x1, x2, n, n1', by omega, t1, t2, .inl ⟨hxs.elim (fun e => .inr (.inl e)) fun e => .inr (.inr e), y3⟩⟩)
        · have q3 : p3 ≠ a := fun z => dp (by rw [z])
          have qs : s ≠ a := fun z => ds (by rw [z])
          have qe : pe ≠ a := fun z => by rw [z, ha] at x1; cases x1
          have qb : pb ≠ a := fun z => by rw [z, ha] at x2; cases x2
          have hyl : ys.length ≤ 6 := by omega
          refine w_isi (tyD_lst ha) rfl ?_
          walk_at "y"
          refine Y.Cl.at (ρ' := E) (by walk_at "less") Sub.refl (hN _ _ ⟨rfl, ?_, (mup_ne qe).trans x1, (mup_ne qb).trans x2, n + 1, by omega, by omega, t1.app ha hl, t2.app ha hl, .inl ⟨hxs.elim (fun e => .inr (.inl e)) fun e => .inr (.inr e), (mup_ne q3).trans y3⟩⟩)
          obtain ⟨e1, e2, e3, e⟩ := hS6
          exact ⟨e1, e2, e3, (mup_ne qs).trans e⟩
      · have qs : s ≠ p3 := fun z => by
          obtain ⟨e1, e2, e3, e⟩ := hS6
          rw [z, y3] at e; cases e
        have qe : pe ≠ p3 := fun z => by rw [z, y3] at x1; cases x1
        have qb : pb ≠ p3 := fun z => by rw [z, y3] at x2; cases x2
        walk_at "y"
        refine Y.Cl.at (ρ' := E) (by walk_at "less") Sub.refl (hN _ _ ⟨rfl, ?_, (mup_ne qe).trans x1, (mup_ne qb).trans x2, n + 1, by omega, by simp only [List.length_nil] at hn ⊢; omega, t1.app y3 n1', t2.app y3 n1', .inr ⟨rfl, mup_same⟩⟩)
        · obtain ⟨e1, e2, e3, e⟩ := hS6
          exact ⟨e1, e2, e3, (mup_ne qs).trans e⟩
    · cases hx
  · rintro _ μ6 ⟨rfl, hS6, x1, x2, n, n1', hn, t1, t2, ⟨hx, _⟩ | ⟨_, y3⟩⟩
    · rcases hx with hx | hx | hx <;> cases hx
    have hx := xmn_lt (k := k)
    walk_at "y"
    refine ⟨pe, k, d1, d2, rfl, hk, x1, ?_⟩
    walk_at "y"
    rw [xmn_cut hk]
    walk_at "y"
    refine ⟨_, _, rfl, Nat.le_trans (xvs_len hk) (by decide), xvs_pair t1.sm t2.sm, ?_⟩
    walk_at "y"
    refine ⟨pb, k, .adr p3, .adr p3, rfl, hk, x2, ?_⟩
    walk_at "y"
    refine w_mulL asL_lst (by omega) (by omega) ?_
    rw [xvs_rep hk]
    have hzz : (xvs k (D.lst [D.str (Str.ofString "b"), D.int 7]) (D.lst [D.str (Str.ofString "b"), D.int 7])).length ≤ 2 := xvs_len hk
    walk_at "y"
    have hpp : Sm μ6 (.adr p3) (.lst [.str "b", .int 7]) := ⟨.inr (.inr (.inl ⟨_, _, asL_adr y3, asL_lst, .cons (.inl ⟨rfl, rfl⟩) (.cons (.inl ⟨rfl, rfl⟩) .nil)⟩)), rfl, ⟨"list", tyD_lst y3, rfl⟩, ⟨"list", rfl, rfl⟩⟩
    refine ⟨_, _, rfl, Nat.le_trans (xvs_len hk) (by decide), xvs_pair hpp hpp, ?_⟩
    exact RtC.same (q _ hS6)
/-! ### law -/
abbrev splaw : Sp2 := spLaw
theorem Dlaw (T : Tt K mg cc) : Df P w K mg base "law" 5 ["_law_script"] (splaw) := by
  have DLcell := DLcell (P := P) (w := w) (base := base) T
  have DLstream := DLstream (P := P) (w := w) (base := base) T
  have DLkinds := DLkinds (P := P) (w := w) (base := base) T
  have DLright := DLright (P := P) (w := w) (base := base) T
  have qV := T.qr.1
  refine T.xlaw.ok sclaw (by rintro ds μ Q E ⟨ns, rfl, hl, q⟩ <;> rfl) (fun f cdv A outer s H E hr => ⟨_, _, (b_cons (s_for PassesOwn.never rfl (j_r1 (by rfl) T.b_range (a_cons (e_max2 (by rfl) T.b_max (a_cons e_int (a_cons (e_min2 (by rfl) T.b_min (a_cons (e_len (by rfl) T.b_len (a_cons (e_pv 0 (pv 0)) a_nil)) (a_cons e_int a_nil))) a_nil))) a_nil)) (g_nm (pg_name (i := 1) sclaw.nd rfl (by first | exact Or.inl rfl | exact Or.inr rfl)))
      (b_cons (s_set (i := 2) (e_call DLstream hr (by rfl) (a_cons (e_call DLcell hr (by rfl) (a_cons (e_pv 0 (pv 0)) (a_cons (e_pv 1 (pv 1)) a_nil))) a_nil)) sclaw.nd rfl (by first | exact Or.inl rfl | exact Or.inr rfl))
      (b_one (s_for PassesOwn.never rfl (j_r1 (by rfl) T.b_range (a_cons e_int a_nil)) (g_nm (pg_name (i := 3) sclaw.nd rfl (by first | exact Or.inl rfl | exact Or.inr rfl)))
      (b_one (s_if (t_not (t_val (e_call DLright hr (by rfl) (a_cons (e_pv 2 (pv 2)) (a_cons (e_pv 3 (pv 3)) a_nil)))))
      (b_one (s_ret e_bl))
      b_nil))))))
      (b_cons (s_set (i := 4) (e_mkR PySem.F.excBase_ValueError T.rv_RowsError (by rfl) e_str) sclaw.nd rfl (by first | exact Or.inl rfl | exact Or.inr rfl))
      (b_one (s_ret (e_and (e_isE K rfl (by rfl) T.b_isinstance (a_cons (e_pv 4 (pv 4)) (a_cons (e_bty (n := "ValueError") (by rfl) T.b_ValueError (by decide +kernel)) a_nil))) (e_one (e_notIn e_bl (e_call DLkinds hr (by rfl) (a_cons (e_pv 4 (pv 4)) a_nil)) (by rfl)))))))), ?_⟩)
  rintro ds μ Q E ⟨ns, rfl, hl, q⟩
  walk_at "y"
  refine Y.Cl.at (ρ' := start2 nlaw [.scr ns]) (by walk_at "less") Sub.refl (w_turnsM (fun ρ μ' => ρ = start2 nlaw [.scr ns]) (fun _ _ _ => trivial) ?_ ?_ _ _ rfl)
  · rintro d hd _ μ1 rfl N hN
    obtain ⟨k, hk, rfl⟩ := rng_mem0 hd
    walk_at "y"
    refine ⟨ns, _, rfl, by omega, by omega, fun c => ?_⟩
    walk_at "y"
    refine ⟨c, rfl, fun st μ2 hst hS hμ2 => ?_⟩
    walk_at "y"
    let E : Env2 := ((start2 nlaw [.scr ns]).set 1 (some (.int k))).set 2 (some (.adr st))
    refine Y.Cl.at (ρ' := E) (by walk_at "less") Sub.refl (w_turnsM (fun ρ μ' => ρ = E ∧ Strm μ' st) (fun _ _ _ => trivial) ?_ ?_ _ _ ⟨rfl, hS⟩)
    · rintro d hd _ μ3 ⟨rfl, hS3⟩ N2 hN2
      obtain ⟨j, hj, rfl⟩ := rng_mem0 hd
      walk_at "y"
      refine ⟨st, j, rfl, hS3, by omega, fun μ4 hS4 => ?_⟩
      walk_at "y"
      exact Y.Cl.at (ρ' := E) (by walk_at "less") Sub.refl (hN2 _ _ ⟨rfl, hS4⟩)
    · rintro _ μ3 ⟨rfl, hS3⟩
      exact Y.Cl.at (by walk_at "less") Sub.refl (hN _ _ rfl)
  · rintro _ μ' rfl
    walk_at "y"
    rename_i p hp
    have f : mup μ' p (MO.exc (cc 0) []) p = some (MO.exc (cc 0) []) := mup_same
    refine w_isE f (.ty _) T.e_RowsError qV ?_
    walk_at "y"
    refine ⟨p, cc 0, [], _, rfl, f, .inr ⟨rfl, rfl⟩, ?_⟩
    walk_at "y"
    refine w_notInS asS_lst rfl rfl ?_
    exact RtC.less (Sub.new hp) (q _)

end W
namespace W
open PySem PySem.Spec PyProof.Rows L2 Y
theorem tt_mk {K : PySem.W.Frag} {h : Heap} {mg : Str → Option Value} {w : World} (X : K.In h) (G : h.Ns mainGlobals mg) (c : SaysY bsL fnL tsL w K) : Tt K mg (ccK K) := {
  r_RowsError := rc_mk X G (c.b 0 rfl),
  rv_RowsError := rv_mk X G (c.b 1 rfl),
  e_RowsError := ec_mk (c.b 2 rfl),
  qa := qa_mk (c.b 3 rfl),
  qr := qr_mk (c.b 4 rfl),
  k_NoText := Exists.elim (c.df 0 rfl) fun fd F => xk_mk X G (c.b 6 rfl) F (F.binds fun _ _ _ _ _ _ us hl => match us, hl with | [_, _], _ => (by kernel_rfl)) (fun n hn => by simp only [List.mem_cons, List.not_mem_nil, or_false] at hn; subst hn <;> first | exact no_mk (c.b 5 rfl)),
  e_NoText := ec_mk (c.b 7 rfl),
  f_NoText := xf_mk (c.b 7 rfl),
  m_NoText := ex_mk (c.b 8 rfl),
  k_Twice := Exists.elim (c.df 1 rfl) fun fd F => xk_mk X G (c.b 10 rfl) F (F.binds fun _ _ _ _ _ _ us hl => match us, hl with | [_, _], _ => (by kernel_rfl)) (fun n hn => by simp only [List.mem_cons, List.not_mem_nil, or_false] at hn; subst hn <;> first | exact no_mk (c.b 9 rfl)),
  e_Twice := ec_mk (c.b 11 rfl),
  f_Twice := xf_mk (c.b 11 rfl),
  m_Twice := ex_mk (c.b 12 rfl),
  k_NoName := Exists.elim (c.df 2 rfl) fun fd F => xk_mk X G (c.b 14 rfl) F (F.binds fun _ _ _ _ _ _ us hl => match us, hl with | [_, _], _ => (by kernel_rfl)) (fun n hn => by simp only [List.mem_cons, List.not_mem_nil, or_false] at hn; subst hn <;> first | exact no_mk (c.b 13 rfl)),
  e_NoName := ec_mk (c.b 15 rfl),
  f_NoName := xf_mk (c.b 15 rfl),
  m_NoName := ex_mk (c.b 16 rfl),
  k_NoFit := Exists.elim (c.df 3 rfl) fun fd F => xk_mk X G (c.b 18 rfl) F (F.binds fun _ _ _ _ _ _ us hl => match us, hl with | [_, _], _ => (by kernel_rfl)) (fun n hn => by simp only [List.mem_cons, List.not_mem_nil, or_false] at hn; subst hn <;> first | exact no_mk (c.b 17 rfl)),
  e_NoFit := ec_mk (c.b 19 rfl),
  f_NoFit := xf_mk (c.b 19 rfl),
  m_NoFit := ex_mk (c.b 20 rfl),
  k_BadLine := Exists.elim (c.df 4 rfl) fun fd F => xk_mk X G (c.b 22 rfl) F (F.binds fun _ _ _ _ _ _ us hl => match us, hl with | [_, _], _ => (by kernel_rfl)) (fun n hn => by simp only [List.mem_cons, List.not_mem_nil, or_false] at hn; subst hn <;> first | exact no_mk (c.b 21 rfl)),
  e_BadLine := ec_mk (c.b 23 rfl),
  f_BadLine := xf_mk (c.b 23 rfl),
  m_BadLine := ex_mk (c.b 24 rfl),
  k_NoKind := Exists.elim (c.df 5 rfl) fun fd F => xk_mk X G (c.b 26 rfl) F (F.binds fun _ _ _ _ _ _ us hl => match us, hl with | [_, _], _ => (by kernel_rfl)) (fun n hn => by simp only [List.mem_cons, List.not_mem_nil, or_false] at hn; subst hn <;> first | exact no_mk (c.b 25 rfl)),
  e_NoKind := ec_mk (c.b 27 rfl),
  f_NoKind := xf_mk (c.b 27 rfl),
  m_NoKind := ex_mk (c.b 28 rfl),
  k_NoRow := Exists.elim (c.df 6 rfl) fun fd F => xk_mk X G (c.b 30 rfl) F (F.binds fun _ _ _ _ _ _ us hl => match us, hl with | [_, _], _ => (by kernel_rfl)) (fun n hn => by simp only [List.mem_cons, List.not_mem_nil, or_false] at hn; subst hn <;> first | exact no_mk (c.b 29 rfl)),
  e_NoRow := ec_mk (c.b 31 rfl),
  f_NoRow := xf_mk (c.b 31 rfl),
  m_NoRow := ex_mk (c.b 32 rfl),
  k_NoState := Exists.elim (c.df 7 rfl) fun fd F => xk_mk X G (c.b 34 rfl) F (F.binds fun _ _ _ _ _ _ us hl => match us, hl with | [_, _], _ => (by kernel_rfl)) (fun n hn => by simp only [List.mem_cons, List.not_mem_nil, or_false] at hn; subst hn <;> first | exact no_mk (c.b 33 rfl)),
  e_NoState := ec_mk (c.b 35 rfl),
  f_NoState := xf_mk (c.b 35 rfl),
  m_NoState := ex_mk (c.b 36 rfl),
  k_BadStep := Exists.elim (c.df 8 rfl) fun fd F => xk_mk X G (c.b 38 rfl) F (F.binds fun _ _ _ _ _ _ us hl => match us, hl with | [_, _], _ => (by kernel_rfl)) (fun n hn => by simp only [List.mem_cons, List.not_mem_nil, or_false] at hn; subst hn <;> first | exact no_mk (c.b 37 rfl)),
  e_BadStep := ec_mk (c.b 39 rfl),
  f_BadStep := xf_mk (c.b 39 rfl),
  m_BadStep := ex_mk (c.b 40 rfl),
  k_NoPlaces := Exists.elim (c.df 9 rfl) fun fd F => xk_mk X G (c.b 42 rfl) F (F.binds fun _ _ _ _ _ _ us hl => match us, hl with | [_, _], _ => (by kernel_rfl)) (fun n hn => by simp only [List.mem_cons, List.not_mem_nil, or_false] at hn; subst hn <;> first | exact no_mk (c.b 41 rfl)),
  e_NoPlaces := ec_mk (c.b 43 rfl),
  f_NoPlaces := xf_mk (c.b 43 rfl),
  m_NoPlaces := ex_mk (c.b 44 rfl),
  k_NoSize := Exists.elim (c.df 10 rfl) fun fd F => xk_mk X G (c.b 46 rfl) F (F.binds fun _ _ _ _ _ _ us hl => match us, hl with | [_, _], _ => (by kernel_rfl)) (fun n hn => by simp only [List.mem_cons, List.not_mem_nil, or_false] at hn; subst hn <;> first | exact no_mk (c.b 45 rfl)),
  e_NoSize := ec_mk (c.b 47 rfl),
  f_NoSize := xf_mk (c.b 47 rfl),
  m_NoSize := ex_mk (c.b 48 rfl),
  k_NoRoom := Exists.elim (c.df 11 rfl) fun fd F => xk_mk X G (c.b 51 rfl) F (F.binds fun _ _ _ _ _ _ us hl => match us, hl with | [_, _, _], _ => (by kernel_rfl)) (fun n hn => by simp only [List.mem_cons, List.not_mem_nil, or_false] at hn; rcases hn with rfl | rfl <;> first | exact no_mk (c.b 49 rfl) | exact no_mk (c.b 50 rfl)),
  e_NoRoom := ec_mk (c.b 52 rfl),
  f_NoRoom := xf_mk (c.b 52 rfl),
  m_NoRoom := ex_mk (c.b 53 rfl),
  k_Crowded := Exists.elim (c.df 12 rfl) fun fd F => xk_mk X G (c.b 56 rfl) F (F.binds fun _ _ _ _ _ _ us hl => match us, hl with | [_, _, _], _ => (by kernel_rfl)) (fun n hn => by simp only [List.mem_cons, List.not_mem_nil, or_false] at hn; rcases hn with rfl | rfl <;> first | exact no_mk (c.b 54 rfl) | exact no_mk (c.b 55 rfl)),
  e_Crowded := ec_mk (c.b 57 rfl),
  f_Crowded := xf_mk (c.b 57 rfl),
  m_Crowded := ex_mk (c.b 58 rfl),
  k_NoBudget := Exists.elim (c.df 13 rfl) fun fd F => xk_mk X G (c.b 60 rfl) F (F.binds fun _ _ _ _ _ _ us hl => match us, hl with | [_, _], _ => (by kernel_rfl)) (fun n hn => by simp only [List.mem_cons, List.not_mem_nil, or_false] at hn; subst hn <;> first | exact no_mk (c.b 59 rfl)),
  e_NoBudget := ec_mk (c.b 61 rfl),
  f_NoBudget := xf_mk (c.b 61 rfl),
  m_NoBudget := ex_mk (c.b 62 rfl),
  k_Within := Exists.elim (c.df 14 rfl) fun fd F => xk_mk X G (c.b 63 rfl) F (F.binds fun _ _ _ _ _ _ us hl => match us, hl with | [_], _ => (by kernel_rfl)) (fun n hn => by cases hn),
  e_Within := ec_mk (c.b 64 rfl),
  f_Within := xf_mk (c.b 64 rfl),
  m_Within := ex_mk (c.b 65 rfl),
  k_NoChange := Exists.elim (c.df 15 rfl) fun fd F => xk_mk X G (c.b 67 rfl) F (F.binds fun _ _ _ _ _ _ us hl => match us, hl with | [_, _], _ => (by kernel_rfl)) (fun n hn => by simp only [List.mem_cons, List.not_mem_nil, or_false] at hn; subst hn <;> first | exact no_mk (c.b 66 rfl)),
  e_NoChange := ec_mk (c.b 68 rfl),
  f_NoChange := xf_mk (c.b 68 rfl),
  m_NoChange := ex_mk (c.b 69 rfl),
  k_Unlike := Exists.elim (c.df 16 rfl) fun fd F => xk_mk X G (c.b 71 rfl) F (F.binds fun _ _ _ _ _ _ us hl => match us, hl with | [_, _], _ => (by kernel_rfl)) (fun n hn => by simp only [List.mem_cons, List.not_mem_nil, or_false] at hn; subst hn <;> first | exact no_mk (c.b 70 rfl)),
  e_Unlike := ec_mk (c.b 72 rfl),
  f_Unlike := xf_mk (c.b 72 rfl),
  m_Unlike := ex_mk (c.b 73 rfl),
  k_NotPlain := Exists.elim (c.df 17 rfl) fun fd F => xk_mk X G (c.b 75 rfl) F (F.binds fun _ _ _ _ _ _ us hl => match us, hl with | [_, _], _ => (by kernel_rfl)) (fun n hn => by simp only [List.mem_cons, List.not_mem_nil, or_false] at hn; subst hn <;> first | exact no_mk (c.b 74 rfl)),
  e_NotPlain := ec_mk (c.b 76 rfl),
  f_NotPlain := xf_mk (c.b 76 rfl),
  m_NotPlain := ex_mk (c.b 77 rfl),
  k_NoLine := Exists.elim (c.df 18 rfl) fun fd F => xk_mk X G (c.b 78 rfl) F (F.binds fun _ _ _ _ _ _ us hl => match us, hl with | [_], _ => (by kernel_rfl)) (fun n hn => by cases hn),
  e_NoLine := ec_mk (c.b 79 rfl),
  f_NoLine := xf_mk (c.b 79 rfl),
  m_NoLine := ex_mk (c.b 80 rfl),
  xLcell := tx_mk X G (c.df 19 rfl) (c.b 81 rfl) fun fd F => F.binds fun _ _ _ _ _ _ us hl => match us, hl with | [_, _], _ => (by kernel_rfl),
  xLstream := tx_mk X G (c.df 20 rfl) (c.b 82 rfl) fun fd F => F.binds fun _ _ _ _ _ _ us hl => match us, hl with | [_], _ => (by kernel_rfl),
  xLtake := tx_mk X G (c.df 21 rfl) (c.b 83 rfl) fun fd F => F.binds fun _ _ _ _ _ _ us hl => match us, hl with | [_, _], _ => (by kernel_rfl),
  xLthing := tx_mk X G (c.df 22 rfl) (c.b 84 rfl) fun fd F => F.binds fun _ _ _ _ _ _ us hl => match us, hl with | [_], _ => (by kernel_rfl),
  xLfirst := tx_mk X G (c.df 23 rfl) (c.b 85 rfl) fun fd F => F.binds fun _ _ _ _ _ _ us hl => match us, hl with | [_, _, _], _ => (by kernel_rfl),
  xLkinds := tx_mk X G (c.df 24 rfl) (c.b 86 rfl) fun fd F => F.binds fun _ _ _ _ _ _ us hl => match us, hl with | [_], _ => (by kernel_rfl),
  xLfields := tx_mk X G (c.df 25 rfl) (c.b 87 rfl) fun fd F => F.binds fun _ _ _ _ _ _ us hl => match us, hl with | [_], _ => (by kernel_rfl),
  xLsame := tx_mk X G (c.df 26 rfl) (c.b 88 rfl) fun fd F => F.binds fun _ _ _ _ _ _ us hl => match us, hl with | [_, _], _ => (by kernel_rfl),
  xLright := tx_mk X G (c.df 27 rfl) (c.b 89 rfl) fun fd F => F.binds fun _ _ _ _ _ _ us hl => match us, hl with | [_, _], _ => (by kernel_rfl),
  xlaw := tx_mk X G (c.df 28 rfl) (c.b 90 rfl) fun fd F => F.binds fun _ _ _ _ _ _ us hl => match us, hl with | [_], _ => (by kernel_rfl),
  b_ValueError := fr_mg X G (c.b 91 rfl),
  b_bool := fr_mg X G (c.b 92 rfl),
  b_int := fr_mg X G (c.b 93 rfl),
  b_isinstance := fr_mg X G (c.b 94 rfl),
  b_len := fr_mg X G (c.b 95 rfl),
  b_list := fr_mg X G (c.b 96 rfl),
  b_max := fr_mg X G (c.b 97 rfl),
  b_min := fr_mg X G (c.b 98 rfl),
  b_range := fr_mg X G (c.b 99 rfl),
  n_BadLine_line := no_mk (c.b 21 rfl),
  n_BadStep_thing := no_mk (c.b 37 rfl),
  n_Crowded_kind := no_mk (c.b 54 rfl),
  n_Crowded_needed := no_mk (c.b 55 rfl),
  n_NoBudget_thing := no_mk (c.b 59 rfl),
  n_NoChange_kind := no_mk (c.b 66 rfl),
  n_NoFit_name := no_mk (c.b 17 rfl),
  n_NoKind_name := no_mk (c.b 25 rfl),
  n_NoName_name := no_mk (c.b 13 rfl),
  n_NoPlaces_many := no_mk (c.b 41 rfl),
  n_NoRoom_kind := no_mk (c.b 49 rfl),
  n_NoRoom_lacking := no_mk (c.b 50 rfl),
  n_NoRow_row := no_mk (c.b 29 rfl),
  n_NoSize_thing := no_mk (c.b 45 rfl),
  n_NoState_thing := no_mk (c.b 33 rfl),
  n_NoText_place := no_mk (c.b 5 rfl),
  n_NotPlain_kind := no_mk (c.b 74 rfl),
  n_Twice_name := no_mk (c.b 9 rfl),
  n_Unlike_word := no_mk (c.b 70 rfl) }
theorem law_mk {l : PySem.W.OpenLaw} {w : World} {K : PySem.W.Frag} {mg : Str → Option Value} {fa : Addr} {cc : Nat → Addr} (T : Tt K mg cc) (hfa : mg "law" = some (.ref fa)) :
    ∃ fd : FuncData, (∀ (s : Shared) (v : Value), BindsTo s fd ⟨[v], []⟩ [("_law_script", v)]) ∧ ∀ base : Heap, K.In base → base.Ns mainGlobals mg → FnOk l.prog w K mg base CX0 5 fa fd ["_law_script"] (toSp K spLaw) := by
  obtain ⟨f, fd, F, hm, hb⟩ := T.xlaw.of
  cases hfa.symm.trans hm
  obtain ⟨oc, od, kV, doc, pm, an, cdv, ct, osl, rfl, lk, hcd⟩ := F.ex
  refine ⟨PySem.W.fnOf "law" "law" (defArgs slaw) (defBody slaw) (defScope slaw) .none kV doc pm an cdv ct, fun s v => .of_eq rfl, fun base _ _ => ?_⟩
  obtain ⟨f2, fd2, G, hm2, hk2, hb2, oc2, od2, osl2, lk2⟩ := (Dlaw (P := l.prog) (w := w) (base := base) T).of
  cases hm.symm.trans hm2
  exact fn_same G lk2 lk
end W
open PySem PySem.W PyProof.Rows
set_option maxHeartbeats 0 in
theorem PySem.Challenge.cw_rowsbeneath_k04_refusals_apart_holds : PySem.Challenge.rw_rowsbeneath_k04_refusals_apart.Holds := by
  w_on; o_law
  refine HandSHeadRun.head_any (r := OpenLaw.row PySem.Challenge.rw_rowsbeneath_k04_refusals_apart) (q := view (OpenLaw.row PySem.Challenge.rw_rowsbeneath_k04_refusals_apart).prog [31]) (H := W.hkT) (ob := W.obT) (M := 40000) (loose := W.nmT) (d := HandSHeadRun.topDef (OpenLaw.row PySem.Challenge.rw_rowsbeneath_k04_refusals_apart).prog 31) (kwd := []) W.obT_eq
    (by kernel_rfl) (fun s => by kernel_rfl) W.runA (by kernel_rfl) (by kernel_rfl) (by kernel_rfl) (by rfl) (by first | assumption | decide +kernel) (by decide +kernel) ⟨rfl, rfl, rfl, rfl, rfl, by decide +kernel⟩ ?hw ?hc
  case hw => w_witness2
  case hc =>
    refine L2.walk_ofE (l := PySem.Challenge.rw_rowsbeneath_k04_refusals_apart) (n := 63) (k := 5) (x := "_law_script") (CX := L2.CX0) rfl (by decide) (by kernel_rfl) ⟨rfl, by decide, by decide⟩ ?F (fun _ _ _ _ z => z)
    intro w mg fa h Yh G hmg0
    obtain ⟨K, KX, c⟩ := Yh
    have hmg : mg ("law" : PySem.Str) = some (.ref fa) := by
      have e : (HandSHeadRun.topDef (OpenLaw.row PySem.Challenge.rw_rowsbeneath_k04_refusals_apart).prog 31).name = ("law" : PySem.Str) := by kernel_rfl
      rw [← e]
      exact hmg0
    obtain ⟨fd, hb, hF⟩ := W.law_mk (l := PySem.Challenge.rw_rowsbeneath_k04_refusals_apart) (w := w) (W.tt_mk KX G c) hmg
    exact ⟨K, fd, Y.toSp K Y.spLaw, KX, hb, fun H a ns hl _ hS => Y.law_in hl hS, hF⟩
